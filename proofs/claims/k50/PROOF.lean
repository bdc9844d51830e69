import PyProof.Rows.All
import Wide.All
import OpenK.AllK
import Wide.FinOn
import HandS.ForMost
import HandS.NoneIn
import HandS.IsInst
import HandS.Wide
import HandS.WideBits
import HandS.More
import HandS.SetFor
import PyProof.LongRange
import HandS.Zip
import PySem.Challenge.RW_roomslaid_k50_whole_distances
set_option Elab.async false
set_option linter.all false
set_option maxRecDepth 100000
set_option maxHeartbeats 4000000
/-! my base: short calls, heaps, readings by simp -/
namespace Rb
open PySem PySem.Spec PyProof.Rows L2

/-! ### a def of the text with its promise -/
structure Dn (P : Program) (w : World) (K : PySem.W.Frag) (mg : Str → Option Value) (base : Heap) (CX : CXT) (k : Nat) (x : Str) (ps : List Str) (sp : Sp) : Prop where
  ex : ∃ f fd, FnOk P w K mg base CX k f fd ps sp ∧ mg x = some (.ref f) ∧ PySem.W.keepIn K (.ref f) = true ∧ Binds K fd ps []
section
variable {X : Cx} {CX : CXT} {k : Nat} {ps : List Str} {sp : Sp} {E : XK} {x : Str} {p pos : Pos} {e : Expr} {es : List Expr} {t : TA}
theorem pe_cd (D : Dn X.prog X.w X.K X.mg X.base CX k x ps sp) (hr : Room k X.A) (hg : Gl X x) (hx : Passes CX X E) (ha : PA X (e :: es) t)
    (hdb : (x == ("__debug__" : Str)) = false := by decide) (he : starEach (e :: es) X.env = (false, eval e X.env) :: starEach es X.env := by rfl) (hpl : (backTo pos (starEach es X.env)).any (·.1) = false := by rfl) :
    PE X (.Call (.Name x p) (e :: es) [] pos) (tCall sp [] E t) := by
  obtain ⟨f, fd, F, m, kp, b⟩ := D.ex
  exact pe_call F hr hg m kp b .nil hx ha hdb he hpl
theorem pe_cd0 (D : Dn X.prog X.w X.K X.mg X.base CX k x ps sp) (hr : Room k X.A) (hg : Gl X x) (hx : Passes CX X E)
    (hdb : (x == ("__debug__" : Str)) = false := by decide) : PE X (.Call (.Name x p) [] [] pos) (tCall sp [] E tNil) := by
  obtain ⟨f, fd, F, m, kp, b⟩ := D.ex
  exact pe_call0 F hr hg m kp b .nil hx hdb
end

/-! ### heaps -/
/-- all but a is as it was -/
def Off (a : Addr) (H H' : Hp) : Prop := ∀ b o, b ≠ a → H b = some o → H' b = some o
theorem Off.refl {a : Addr} (H : Hp) : Off a H H := fun _ _ _ h => h
theorem Off.trans {a : Addr} {H H1 H2 : Hp} (p : Off a H H1) (q : Off a H1 H2) : Off a H H2 := fun b o n h => q b o n (p b o n h)
theorem Off.of {a : Addr} {H H' : Hp} (s : Same H H') : Off a H H' := fun b o _ h => s b o h
theorem Off.upd {a : Addr} {H : Hp} {o : HO} : Off a H (upd H a o) := fun b u n h => by rw [upd_ne n]; exact h
theorem Off.at {a b : Addr} {H H' : Hp} {o u : HO} (f : Off a H H') (h : H b = some o) (ha : H a = some u) (ne : o ≠ u) : H' b = some o := f b o (ne_of h ha ne) h
theorem same_new {H : Hp} {p : Addr} {o : HO} (h : H p = none) : Same H (upd H p o) := fun b u e => by rw [upd_ne (ne_of_none e h)]; exact e
/-- a new object: its place, the heap from then on -/
theorem new_intro {H : Hp} {o : HO} {Q : VK} (h : ∀ p H1, H p = none → Same H H1 → H1 p = some o → Q (.ref p) H1) : ∀ p, H p = none → Q (.ref p) (upd H p o) := fun p hp => h p _ hp (same_new hp) upd_same
theorem Same.rd {H H' : Hp} {a : Addr} {u : HO} (s : Same H H') (h : Rd H a u) : Rd H' a u := by
  rcases h with h | ⟨o, h⟩
  · exact .inl (s _ _ h)
  · exact .inr ⟨o, s _ _ h⟩
theorem Same.seqT {K : PySem.W.Frag} {H H' : Hp} {a : Addr} {xs : List V} (e : Same H H') (h : SqT K H a xs) : SqT K H' a xs := by
  rcases h with h | h
  · exact .inl (Same.rd e h)
  · exact .inr h
theorem seq_of {K : PySem.W.Frag} {H : Hp} {a : Addr} {xs : List V} (h : H a = some (.lst xs)) : SqL K H a xs := .inl (.inl h)
theorem seqT_of {K : PySem.W.Frag} {H : Hp} {a : Addr} {xs : List V} (h : H a = some (.tup xs)) : SqT K H a xs := .inl (.inl h)
theorem Off.seq {K : PySem.W.Frag} {a b : Addr} {H H' : Hp} {xs ys : List V} (f : Off a H H') (h : SqL K H b xs) (ha : H a = some (.lst ys)) (hb : b ≠ a) : SqL K H' b xs := by
  rcases h with (h | ⟨o, h⟩) | h
  · exact .inl (.inl (f _ _ hb h))
  · exact .inl (.inr ⟨o, f _ _ hb h⟩)
  · exact .inr h
theorem Off.frz {a b : Addr} {H H' : Hp} {o : Obj} {u : HO} {ys : List V} (f : Off a H H') (h : H b = some (.frz o u)) (ha : H a = some (.lst ys)) : H' b = some (.frz o u) := f.at h ha (by intro z; cases z)
/-- made since H, changed as one likes -/
theorem Same.mut {H H' : Hp} {p : Addr} {o : HO} (s : Same H H') (h : H p = none) : Same H (upd H' p o) := fun b u e => by rw [upd_ne (ne_of_none e h)]; exact s b u e
theorem Same.off {a : Addr} {H H1 H2 : Hp} (s : Same H H1) (h : H a = none) (f : Off a H1 H2) : Same H H2 := fun b u e => f b u (ne_of_none e h) (s b u e)
theorem none_back {H H' : Hp} {p : Addr} (s : Same H H') (h : H' p = none) : H p = none := s.free h
theorem Off.none {a p : Addr} {H H' : Hp} {u : HO} (f : Off a H H') (ha : H a = some u) (ha' : H' p = Option.none) (h' : ∃ o, H' a = some o) : H p = Option.none := by
  cases q : H p with
  | none => rfl
  | some o =>
    by_cases e : p = a
    · subst e
      obtain ⟨o', h'⟩ := h'
      rw [h'] at ha'; cases ha'
    · rw [f p o e q] at ha'; cases ha'
/-! ### what comes new, what is changed: told by letters -/
def New (H : Hp) (o : HO) (R : Addr → Hp → Prop) : Prop := ∀ p, H p = none → R p (upd H p o)
theorem New.intro {H : Hp} {o : HO} {R : Addr → Hp → Prop} (h : ∀ p H2, H p = none → Same H H2 → H2 p = some o → R p H2) : New H o R := fun p hp => h p _ hp (same_new hp) upd_same
def Upd (H : Hp) (a : Addr) (o : HO) (R : Hp → Prop) : Prop := R (upd H a o)
theorem Upd.intro {H : Hp} {a : Addr} {o : HO} {R : Hp → Prop} (h : ∀ H2, Off a H H2 → H2 a = some o → R H2) : Upd H a o R := h _ Off.upd upd_same
def Loop (J : It) (g : TG) (tb : TS) (D : Ends) (σ : L2.St) (H : Hp) : Prop := ∃ W : Nat → Nat → L2.St → Hp → Prop, (∃ m, W 0 m σ H) ∧ ∀ i m σ H, W i m σ H →
  (J.stop i H ∧ D.nx σ H) ∨ (J.go i H ∧ ∃ N : L2.St → Hp → Prop, (∀ σ' H', N σ' H' → ∃ m', m' < m ∧ W (i + 1) m' σ' H') ∧ ∀ x H', J.yld i H x H' → g x σ H' fun σ2 H2 => tb { D with nx := N, ct := N, bk := D.nx } σ2 H2)
def Cmp (J : It) (g : TG) (tt : TT) (te : TE) (vs : List Nat) (σ : L2.St) (H1 : Hp) (Q : VK) : Prop := ∀ D, H1 D = none → ∃ W : Nat → Nat → Hp → Prop, (∃ m, W 0 m (upd H1 D (.lst []))) ∧ ∀ i m H, W i m H →
  (J.stop i H ∧ Q (.ref D) H) ∨ (J.go i H ∧ ∃ Nx : Hp → Prop, (∀ H', Nx H' → ∃ m', m' < m ∧ W (i + 1) m' H') ∧ ∀ x H', J.yld i H x H' → g x (wipe σ vs) H' fun σ2 H2 => wipe σ2 vs = wipe σ vs ∧ tt σ2 H2 fun b H3 =>
    if b = true then te σ2 H3 fun y H4 => ∃ acc, H4 D = some (.lst acc) ∧ acc.length < sizeLine ∧ Nx (upd H4 D (.lst (acc ++ [y]))) else Nx H3)
theorem tTup_n {t : TA} : tTup t = fun σ H Q => t σ H fun xs H1 => xs.length ≤ sizeLine ∧ New H1 (.tup xs) fun p H2 => Q (.ref p) H2 := rfl
theorem tLst_n {t : TA} : tLst t = fun σ H Q => t σ H fun xs H1 => xs.length ≤ sizeLine ∧ New H1 (.lst xs) fun p H2 => Q (.ref p) H2 := rfl
theorem rSlL_n {K : PySem.W.Frag} : rSlL K = fun x lo hi H Q => ∃ a xs, x = .ref a ∧ SqL K H a xs ∧ New H (.lst (cutV xs lo hi)) fun p H2 => Q (.ref p) H2 := rfl
theorem rAppend_n : rAppend = fun x vs H Q => ∃ l xs y, x = .ref l ∧ vs = [y] ∧ H l = some (.lst xs) ∧ xs.length < sizeLine ∧ Upd H l (.lst (xs ++ [y])) fun H2 => Q .non H2 := rfl
theorem rExtend_n : rExtend = fun x vs H Q => ∃ l b xs zs, x = .ref l ∧ vs = [.ref b] ∧ H l = some (.lst xs) ∧ H b = some (.lst zs) ∧ xs.length + zs.length ≤ sizeLine ∧ Upd H l (.lst (xs ++ zs)) fun H2 => Q .non H2 := rfl
theorem rPop_n : rPop = fun x vs H Q => ∃ l xs y, x = .ref l ∧ vs = [] ∧ H l = some (.lst xs) ∧ xs[xs.length - 1]? = some y ∧ Upd H l (.lst xs.dropLast) fun H2 => Q y H2 := rfl
theorem rClear_n : rClear = fun x vs H Q => ∃ l xs, x = .ref l ∧ vs = [] ∧ H l = some (.lst xs) ∧ Upd H l (.lst []) fun H2 => Q .non H2 := rfl
theorem rSetL_n : rSetL = fun o i v H Q => ∃ p xs k j, o = .ref p ∧ i = .int k ∧ H p = some (.lst xs) ∧ ixN xs.length k = some j ∧ Upd H p (.lst (xs.set j v)) fun H2 => Q H2 := rfl
theorem tFor_n {wi : TI} {g : TG} {tb : TS} : tFor wi g tb = fun D σ H => wi σ H fun J H1 => Loop J g tb D σ H1 := rfl
theorem tLc_n {wi : TI} {g : TG} {tt : TT} {te : TE} {vs : List Nat} : tLc wi g tt te vs = fun σ H Q => wi σ H fun J H1 => Cmp J g tt te vs σ H1 Q := rfl
/-! built-ins, by letters -/
def rDivmod : List V → Hp → VK → Prop := fun xs H Q => ∃ i j, xs = [.int i, .int j] ∧ CDiv i j ∧ New H (.tup [.int (i / j), .int (i % j)]) fun p H2 => Q (.ref p) H2
theorem call_divmodR {X : Cx} : CallR X (.builtin "divmod") rDivmod := call_divmod
def rListOf (K : PySem.W.Frag) : List V → Hp → VK → Prop := fun xs H Q => ∃ p ys, xs = [.ref p] ∧ (SqL K H p ys ∨ SqT K H p ys) ∧ New H (.lst ys) fun l H2 => Q (.ref l) H2
theorem call_listR {X : Cx} {K : PySem.W.Frag} (h : X.K = K := by rfl) : CallR X (.type "list") (rListOf K) := by subst h; exact call_list_of
def rTupOf (K : PySem.W.Frag) : List V → Hp → VK → Prop := fun xs H Q => ∃ p ys, xs = [.ref p] ∧ ((SqL K H p ys ∧ New H (.tup ys) fun l H2 => Q (.ref l) H2) ∨ (SqT K H p ys ∧ Q (.ref p) H))
theorem call_tupR {X : Cx} {K : PySem.W.Frag} (h : X.K = K := by rfl) : CallR X (.type "tuple") (rTupOf K) := by subst h; exact call_tuple_of
def rLenSeq (K : PySem.W.Frag) : List V → Hp → VK → Prop := fun xs H Q => ∃ p ys, xs = [.ref p] ∧ (SqL K H p ys ∨ SqT K H p ys) ∧ Q (.int ys.length) H
theorem call_lenR {X : Cx} {K : PySem.W.Frag} (h : X.K = K := by rfl) : CallR X (.builtin "len") (rLenSeq K) := by subst h; exact call_len_seq
def rMin2 : List V → Hp → VK → Prop := fun xs H Q => ∃ i j, xs = [.int i, .int j] ∧ Q (.int (if j < i then j else i)) H
def rMax2 : List V → Hp → VK → Prop := fun xs H Q => ∃ i j, xs = [.int i, .int j] ∧ Q (.int (if j > i then j else i)) H
theorem call_min2R {X : Cx} (hc : X.calm = true) : CallR X (.builtin "min") rMin2 := call_min2 hc
theorem call_max2R {X : Cx} (hc : X.calm = true) : CallR X (.builtin "max") rMax2 := call_max2 hc

theorem snocI {α : Type} {P : List α → Prop} (h0 : P []) (h1 : ∀ xs x, P xs → P (xs ++ [x])) (l : List α) : P l := by
  have h : ∀ r : List α, P r.reverse := fun r => by
    induction r with
    | nil => exact h0
    | cons x r ih =>
      rw [List.reverse_cons]
      exact h1 _ _ ih
  rw [← List.reverse_reverse l]
  exact h _
/-! ### kinds of things -/
def kinds : List String := ["NoneType", "bool", "int", "str", "list", "tuple", "dict"]
def kindIs (T U : String) : Bool := T == U || (T == "bool" && U == "int")
theorem kd_all : ∀ T ∈ kinds, ∀ U ∈ ["bool", "int", "str", "list", "tuple", "dict"], kitB T U = some (kindIs T U) := by decide +kernel
def Thg (K : PySem.W.Frag) (H : Hp) (x : V) (T : String) : Prop := TyX K H x (.type T) ∧ T ∈ kinds
def isWh : V → Bool
  | .int _ => true
  | _ => false
theorem isi {K : PySem.W.Frag} {H : Hp} {x : V} {T U : String} {b : Bool} {R : Bool → Prop} (ty : TyX K H x (.type T)) (h : kitB T U = some b) (q : R b) : ∃ (t u : Value), ClsV (.ty U) u ∧ TyX K H x t ∧ ∃ b', PySem.W.kitOne K t u = some b' ∧ R b' :=
  ⟨_, _, .ty U, ty, b, kit_ty h, q⟩
/-- isinstance of any thing -/
theorem isiT {K : PySem.W.Frag} {H : Hp} {x : V} {T U : String} {R : Bool → Prop} (t : Thg K H x T) (hU : U ∈ ["bool", "int", "str", "list", "tuple", "dict"]) (q : R (kindIs T U)) : ∃ (t u : Value), ClsV (.ty U) u ∧ TyX K H x t ∧ ∃ b', PySem.W.kitOne K t u = some b' ∧ R b' :=
  isi t.1 (kd_all T t.2 U hU) q
theorem thg_int {K : PySem.W.Frag} {H : Hp} {i : Int} : Thg K H (.int i) "int" := ⟨.base (.int i), by decide⟩
theorem thg_bl {K : PySem.W.Frag} {H : Hp} {b : Bool} : Thg K H (.bl b) "bool" := ⟨.base (.bl b), by decide⟩
theorem thg_non {K : PySem.W.Frag} {H : Hp} : Thg K H .non "NoneType" := ⟨.base .non, by decide⟩
theorem thg_str {K : PySem.W.Frag} {H : Hp} {z : Str} : Thg K H (.str z) "str" := ⟨.base (.str z), by decide⟩
theorem thg_lst {K : PySem.W.Frag} {H : Hp} {a : Addr} {xs : List V} (h : H a = some (.lst xs)) : Thg K H (.ref a) "list" := ⟨.base (.lst h), by decide⟩
theorem thg_dK {K : PySem.W.Frag} {H : Hp} {a : Addr} {xs : List (Key × V)} (h : H a = some (.dK xs)) : Thg K H (.ref a) "dict" := ⟨.base (.dK h), by decide⟩
theorem thg_tup {K : PySem.W.Frag} {H : Hp} {a : Addr} {xs : List V} (h : SqT K H a xs) : Thg K H (.ref a) "tuple" := by
  refine ⟨?_, by decide⟩
  rcases h with (h | ⟨o, h⟩) | ⟨o, _, _, h, hc, _⟩
  · exact .base (.tup h)
  · exact .fTuple h
  · exact .kTuple h hc
theorem thg_seq {K : PySem.W.Frag} {H : Hp} {a : Addr} {xs : List V} (h : SqL K H a xs) : Thg K H (.ref a) "list" := by
  refine ⟨?_, by decide⟩
  rcases h with (h | ⟨o, h⟩) | ⟨o, _, _, h, hc, _⟩
  · exact .base (.lst h)
  · exact .base (.frz h)
  · exact .kList h hc
/-- whole numbers and no others are of the kind int alone -/
theorem isWh_of {K : PySem.W.Frag} {H : Hp} {x : V} {T : String} (t : Thg K H x T) : (kindIs T "int" && !kindIs T "bool") = isWh x := by
  obtain ⟨ty, hT⟩ := t
  generalize hc : Value.type T = c at ty
  cases ty with
  | base b =>
    cases b with
    | ins e cl ha hn htk hm => cases hc
    | _ => cases hc; rfl
  | byt b =>
    cases hc
    exact absurd hT (by decide)
  | set e =>
    cases hc
    exact absurd hT (by decide)
  | kList e c => cases hc; rfl
  | kTuple e c => cases hc; rfl
  | kDict e c => cases hc; rfl
  | fTuple e => cases hc; rfl
  | fDict e => cases hc; rfl
/-! ### constants of the module -/
theorem pe_gi {X : Cx} {x : Str} {v : Int} {pos : Pos} (hg : Gl X x) (hm : ∃ t, X.mg x = some (.int v t)) (hd : (x == ("__debug__" : Str)) = false := by decide) : PE X (.Name x pos) (tC (.int v)) := by
  obtain ⟨t, hm⟩ := hm
  exact pe_glob hg hm ⟨t, rfl⟩ hd
theorem pe_gs {X : Cx} {x v : Str} {pos : Pos} (hg : Gl X x) (hm : ∃ t, X.mg x = some (.str v t)) (hd : (x == ("__debug__" : Str)) = false := by decide) : PE X (.Name x pos) (tC (.str v)) := by
  obtain ⟨t, hm⟩ := hm
  exact pe_glob hg hm ⟨t, rfl⟩ hd
/-! ### tuples in a list -/
def Tups (K : PySem.W.Frag) (H : Hp) : List V → List (List V) → Prop := Paired fun x d => ∃ a, x = .ref a ∧ SqT K H a d
theorem Tups.same {K : PySem.W.Frag} {H H' : Hp} {xs : List V} {ds : List (List V)} (t : Tups K H xs ds) (s : Same H H') : Tups K H' xs ds := Paired.mapP t fun x d ⟨a, e, h⟩ => ⟨a, e, Same.seqT s h⟩
theorem Tups.get {K : PySem.W.Frag} {H : Hp} : ∀ {xs : List V} {ds : List (List V)} {i : Nat} {x : V}, Tups K H xs ds → xs[i]? = some x → ∃ a d, ds[i]? = some d ∧ x = .ref a ∧ SqT K H a d
  | _, _, _, _, .nil, e => by simp at e
  | _, _, 0, _, .cons ⟨a, e1, h⟩ _, e => by
    cases e
    exact ⟨a, _, rfl, e1, h⟩
  | _, _, i + 1, x, .cons _ t, e => Tups.get (i := i) t (by simpa using e)
theorem Tups.append {K : PySem.W.Frag} {H : Hp} : ∀ {xs ys : List V} {ds es : List (List V)}, Tups K H xs ds → Tups K H ys es → Tups K H (xs ++ ys) (ds ++ es)
  | _, _, _, _, .nil, s => s
  | _, _, _, _, .cons r t, s => .cons r (Tups.append t s)
theorem Tups.take {K : PySem.W.Frag} {H : Hp} : ∀ {xs : List V} {ds : List (List V)} (n : Nat), Tups K H xs ds → Tups K H (xs.take n) (ds.take n)
  | _, _, 0, _ => .nil
  | _, _, _ + 1, .nil => .nil
  | _, _, n + 1, .cons r t => .cons r (Tups.take n t)
theorem Tups.len {K : PySem.W.Frag} {H : Hp} {xs : List V} {ds : List (List V)} (t : Tups K H xs ds) : xs.length = ds.length := Paired.length t
theorem SqT.off {K : PySem.W.Frag} {H H' : Hp} {D a : Addr} {xs ys : List V} (f : Off D H H') (hD : H D = some (.lst ys)) (h : SqT K H a xs) : SqT K H' a xs := by
  rcases h with (h | ⟨o, h⟩) | h
  · exact .inl (.inl (f.at h hD (by intro z; cases z)))
  · exact .inl (.inr ⟨o, f.at h hD (by intro z; cases z)⟩)
  · exact .inr h
theorem Tups.off {K : PySem.W.Frag} {H H' : Hp} {D : Addr} {xs ys : List V} {ds : List (List V)} (t : Tups K H xs ds) (f : Off D H H') (hD : H D = some (.lst ys)) : Tups K H' xs ds := Paired.mapP t fun x d ⟨a, e, h⟩ => ⟨a, e, SqT.off f hD h⟩
theorem SqL.off {K : PySem.W.Frag} {H H' : Hp} {D a : Addr} {xs : List V} (f : Off D H H') (n : a ≠ D) (h : SqL K H a xs) : SqL K H' a xs := by
  rcases h with (h | ⟨o, h⟩) | h
  · exact .inl (.inl (f _ _ n h))
  · exact .inl (.inr ⟨o, f _ _ n h⟩)
  · exact .inr h
theorem sz100 {n : Nat} (h : n ≤ 100000) : n ≤ sizeLine := Nat.le_trans h (by decide)
theorem sz100l {n : Nat} (h : n < 100000) : n < sizeLine := Nat.lt_of_lt_of_le h (by decide)
theorem head_int (ns : List Int) (m : Int) : ∃ z, atI (ns.map V.int ++ [.int m]) 0 = some (.int z) := by
  cases ns with
  | nil => exact ⟨m, rfl⟩
  | cons z r => exact ⟨z, atI_nat (j := 0) rfl⟩
theorem last_int {l : List Int} {z : Int} (h : l[l.length - 1]? = some z) : atI (l.map V.int) (-1) = some (.int z) := by
  have ne : l ≠ [] := fun e => by
    rw [e] at h
    cases h
  have e1 := List.dropLast_concat_getLast ne
  have e2 : l.getLast ne = z := by
    rw [List.getLast_eq_getElem]
    rw [List.getElem?_eq_getElem (by cases l <;> simp at ne ⊢)] at h
    exact Option.some.inj h
  rw [← e1, List.map_append, e2]
  exact atI_last _ _
/-! ### the rules over a written part that is named: within a comprehension, too -/
section
variable {X : Cx} {K : PySem.W.Frag}
theorem ix_listK (h : X.K = K := by rfl) : IxR X (rIxL K) := by subst h; exact ix_list
theorem ix_tupK (h : X.K = K := by rfl) : IxR X (rIxT K) := by subst h; exact ix_tup
theorem sl_listK (h : X.K = K := by rfl) : SlR X (rSlL K) := by subst h; exact sl_list
theorem sl_tupK (h : X.K = K := by rfl) : SlR X (rSlT K) := by subst h; exact sl_tup
theorem op_in_seqK (h : X.K = K := by rfl) : OpR X (compareOp .In) (rIn K false) := by subst h; exact op_in_seq
theorem op_notIn_seqK (h : X.K = K := by rfl) : OpR X (compareOp .NotIn) (rIn K true) := by subst h; exact op_notIn_seq
theorem op_eqDK (hu : X.A.units + 64 < cLine) (h : X.K = K := by rfl) : OpR X (compareOp .Eq) (rEqD K) := by subst h; exact op_eqD hu
theorem op_neDK (hu : X.A.units + 64 < cLine) (h : X.K = K := by rfl) : OpR X (compareOp .NotEq) (rNeD K) := by subst h; exact op_neD hu
theorem op_catTK (h : X.K = K := by rfl) : OpR X (binaryOp .Add) (rCatT K) := by subst h; exact op_catT
theorem call_isiK' (h : X.K = K := by rfl) : CallR X (.builtin "isinstance") (rIsi K) := by subst h; exact call_isi
theorem call_isiTK (h : X.K = K := by rfl) : CallR X (.builtin "isinstance") (rIsiT K) := by subst h; exact call_isiT
theorem cr_allK (hc : X.calm = true) (h : X.K = K := by rfl) : CallR X (.builtin "all") (rAll K) := by subst h; exact cr_all hc
theorem cr_anyK (hc : X.calm = true) (h : X.K = K := by rfl) : CallR X (.builtin "any") (rAny K) := by subst h; exact cr_any hc
theorem cr_sumK (hc : X.calm = true) (h : X.K = K := by rfl) : CallR X (.builtin "sum") (rSum K) := by subst h; exact cr_sum hc
theorem pi_listK {tg l : Expr} {tl : TE} (hl : PE X l tl) (h : X.K = K := by rfl) : PI X tg l (iList K tl) := by subst h; exact pi_list hl
theorem pi_tupK {tg l : Expr} {tl : TE} (hl : PE X l tl) (h : X.K = K := by rfl) : PI X tg l (iTup K tl) := by subst h; exact pi_tup hl
theorem pi_reversedK {tg e : Expr} {ta : TA} {p pos : Pos} (hg : Gl X "reversed") (hm : X.mg "reversed" = none) (ha : PA X [e] ta) (hs : starEach [e] X.env = [(false, eval e X.env)] := by rfl) (h : X.K = K := by rfl) : PI X tg (.Call (.Name "reversed" p) [e] [] pos) (iRev K ta) := by subst h; exact pi_reversed hg hm ha hs
theorem pe_bm0K {o : Expr} {to : TE} {name : Str} {apos cpos : Pos} {T id : String} {r : V → List V → Hp → VK → Prop} (pa : PlainAttrs T) (slot : Slot T name id) (hty : typeOf (.builtin id) = pure (.type "method_descriptor")) (hm : MtR X id r) (ho : PE X o to)
    (hbase : attributeBase o name X.env (eval o X.env) = eval o X.env := by rfl) (hline : (apos.endLine == cpos.line) = true := by rfl) (h : X.K = K := by rfl) : PE X (.Call (.Attribute o name apos) [] [] cpos) (tBM0 K T r to) := by subst h; exact pe_bm0 pa slot hty hm ho hbase hline
theorem pe_bmK {o e : Expr} {es : List Expr} {to : TE} {t : TA} {name : Str} {apos cpos : Pos} {T id : String} {r : V → List V → Hp → VK → Prop} (pa : PlainAttrs T) (slot : Slot T name id) (hty : typeOf (.builtin id) = pure (.type "method_descriptor")) (hm : MtR X id r) (ho : PE X o to) (ha : PA X (e :: es) t)
    (hbase : attributeBase o name X.env (eval o X.env) = eval o X.env := by rfl)
    (hfew : ((backTo cpos (starEach (e :: es) X.env)).all (fun x => !x.1) && (backToKw cpos (keywordEach [] X.env)).all (fun x => x.1.isSome)
      && decide ((e :: es).length + ([] : List Keyword).length + (if ([] : List Keyword).isEmpty then 0 else 1) < 30)) = true := by rfl)
    (hline : (apos.endLine == cpos.line) = true := by rfl) (hs : starEach (e :: es) X.env = (false, eval e X.env) :: starEach es X.env := by rfl) (hplain : (backTo cpos (starEach es X.env)).any (·.1) = false := by rfl) (h : X.K = K := by rfl) :
    PE X (.Call (.Attribute o name apos) (e :: es) [] cpos) (tBM K T r to t) := by subst h; exact pe_bm pa slot hty hm ho ha hbase hfew hline hs hplain
theorem mt_indexK (h : X.K = K := by rfl) : MtR X "list.index" (rIndex K) := by subst h; exact mt_index
theorem pi_enumK {e : Expr} {ta : TA} {p pos tpos : Pos} {elts : List Expr} {kk : Nat} (hg : Gl X "enumerate") (hm : X.mg "enumerate" = none) (ha : PA X [e] ta) (hs : starEach [e] X.env = [(false, eval e X.env)] := by rfl) (h : X.K = K := by rfl) :
    PI X (.Tuple elts kk tpos) (.Call (.Name "enumerate" p) [e] [] pos) (iEnum K ta) := by subst h; exact pi_enum hg hm ha hs
theorem pi_zipK {e e2 : Expr} {ta : TA} {p pos tpos : Pos} {elts : List Expr} {kk : Nat} (hg : Gl X "zip") (hm : X.mg "zip" = none) (ha : PA X [e, e2] ta)
    (hs : starEach [e, e2] X.env = (false, eval e X.env) :: starEach [e2] X.env := by rfl) (hpl : (backTo pos (starEach [e2] X.env)).any (·.1) = false := by rfl) (h : X.K = K := by rfl) :
    PI X (.Tuple elts kk tpos) (.Call (.Name "zip" p) [e, e2] [] pos) (iZip K ta) := by subst h; exact pi_zip hg hm ha hs hpl
theorem pe_fldK {e : Expr} {f : Str} {pos : Pos} {ta : TE} (he : PE X e ta) (hb : attributeBase e f X.env (eval e X.env) = eval e X.env) (h : X.K = K := by rfl) : PE X (.Attribute e f pos) (tFld K ta f) := by subst h; exact pe_fld he hb
end

/-! ### ranges of ints of any size, walked -/
theorem turn_long {P : Program} {w : World} {K : PySem.W.Frag} {tg : Expr} (it : Addr) (lo : Int) (n : Nat) : Turn P w K tg (Itr lo n) [it] it (fun i h => IsLongIter h it (lo + (i : Nat) * 1) ((n : Int) - (i : Nat)) 1) where
  mem := by simp
  obj := fun i h st b hb => by
    have e : b = it := by simpa using hb
    subst e
    exact ⟨_, st, fun v z => by
      have z' : Data.fields _ = Data.cell v := z
      cases z'⟩
  keep := fun i h h' st k => k it (by simp) _ st
  item := by
    intro X hP hw hK hc i pins s σ H E I hf st hg
    subst hP hw hK
    obtain ⟨f0, f1, f2, f3, f4, f5⟩ := hf it (by simp)
    have W := Walks.longrange (prog := X.prog) (w := X.w) (I.ok.hd hc) it lo 1 n
    refine W.item i s _ _ hg st fun v h' tk hv st' kk => ?_
    obtain ⟨t, rfl⟩ := hv
    have I1 : Inv X pins σ H { s with heap := h', toks := tk } := I.turned (fun b o hb e => kk b o (by simpa using hb) e) f0 f1 f3 f4 f5
    refine ⟨_, rfl, go_of (s := { s with heap := h', toks := tk }) (n := "longrange_iterator") st' rfl rfl (by decide) ⟨.int (lo + i), H, I1, ⟨t, ?_⟩, ⟨rfl, rfl⟩, st', fun b hb => (hf b hb).1⟩⟩
    rw [Int.mul_one]
  done := by
    intro X hP hw hK hc i pins s σ H E I hf st hg
    subst hP hw hK
    obtain ⟨f0, f1, f2, f3, f4, f5⟩ := hf it (by simp)
    exact wpAny_pyNext_long_end (I.ok.hd hc) st (by have : n ≤ i := hg; omega) fun h' eb => ⟨rfl, I.turned (t' := s.toks) (fun b o hb e => eb b o hb e) f0 f1 f3 f4 f5⟩
  self := fun _ _ _ _ _ st h => wpAny_pyIter_longiter st h
theorem range_itL {X : Cx} {tg : Expr} {pins : List (Addr × Obj)} {σ : L2.St} {H : Hp} {s : Shared} {R : It → Hp → Prop} {E : Value → Shared → Prop} {lo hi : Int} {t u v : Tok} {tk : Nat} (I : Inv X pins σ H s)
    (q : R (Itr lo (hi - lo).toNat) H) : wpAny (model X.prog X.w) X.A (pyIter (.ref s.heap.objs.size)) (PIE X pins σ tg R) E { s with heap := s.heap.push { cls := .type "range", data := .fields #[.int lo t, .int hi u, .int 1 v] }, toks := tk } := by
  have I1 : Inv X pins σ H { s with heap := s.heap.push { cls := .type "range", data := .fields #[.int lo t, .int hi u, .int 1 v] }, toks := tk } := I.kept fun b o e => Heap.get?_push_of_some _ e
  have e1 : lo + ((0 : Nat) : Int) * 1 = lo := by simp
  have e2 : (((hi - lo).toNat : Nat) : Int) - ((0 : Nat) : Int) = Builtin.Range.rangeSize lo hi 1 := by rw [rangeSize_one]; split <;> omega
  cases hs : Builtin.Range.small lo hi 1 with
  | true =>
    refine wpAny_pyIter_range (IsRange.new ..) hs ?_
    refine ⟨(s.heap.push { cls := .type "range", data := .fields #[.int lo t, .int hi u, .int 1 v] }).objs.size, [(s.heap.push { cls := .type "range", data := .fields #[.int lo t, .int hi u, .int 1 v] }).objs.size], _, _, H, rfl,
      I1.kept (t' := tk) fun b o e => Heap.get?_push_of_some _ e, turn_range _ lo (hi - lo).toNat, ?_, fun b hb => ?_, q⟩
    · show IsRangeIter _ _ (lo + ((0 : Nat) : Int) * 1) ((((hi - lo).toNat : Nat) : Int) - ((0 : Nat) : Int)) 1
      rw [e1, e2]
      exact Heap.get?_push_size _ rfl
    · have e : b = (s.heap.push { cls := .type "range", data := .fields #[.int lo t, .int hi u, .int 1 v] }).objs.size := by simpa using hb
      subst e
      exact I1.fpOk (Nat.le_refl _) (I1.hok.fresh (Nat.le_refl _))
  | false =>
    refine wpAny_pyIter_longrange (IsRange.new ..) hs ?_
    refine ⟨(s.heap.push { cls := .type "range", data := .fields #[.int lo t, .int hi u, .int 1 v] }).objs.size, [(s.heap.push { cls := .type "range", data := .fields #[.int lo t, .int hi u, .int 1 v] }).objs.size], _, _, H, rfl,
      I1.kept (t' := tk) fun b o e => Heap.get?_push_of_some _ e, turn_long _ lo (hi - lo).toNat, ?_, fun b hb => ?_, q⟩
    · show IsLongIter _ _ (lo + ((0 : Nat) : Int) * 1) ((((hi - lo).toNat : Nat) : Int) - ((0 : Nat) : Int)) 1
      rw [e1, e2]
      exact Heap.get?_push_size _ rfl
    · have e : b = (s.heap.push { cls := .type "range", data := .fields #[.int lo t, .int hi u, .int 1 v] }).objs.size := by simpa using hb
      subst e
      exact I1.fpOk (Nat.le_refl _) (I1.hok.fresh (Nat.le_refl _))
def iRngL1 (ta : TA) : TI := fun σ H R => ta σ H fun vs H1 => ∃ j : Int, vs = [.int j] ∧ R (Itr 0 j.toNat) H1
def iRngL2 (ta : TA) : TI := fun σ H R => ta σ H fun vs H1 => ∃ i j : Int, vs = [.int i, .int j] ∧ R (Itr i (j - i).toNat) H1
theorem pi_rangeL1 {X : Cx} {tg : Expr} {a : Expr} {ta : TA} {p pos : Pos} (hg : Gl X "range") (hm : X.mg "range" = none) (ha : PA X [a] ta) (hs : starEach [a] X.env = [(false, eval a X.env)] := by rfl) : PI X tg (.Call (.Name "range" p) [a] [] pos) (iRngL1 ta) := by
  refine ⟨fun pins s σ H R I h => ?_⟩
  refine Call_ (ld_blt I hg hm boot_range (PyProof.Rows.callWith_type1 (thn (ha.run pos pins s σ H _ I h) fun us s1 ⟨vs, H1, I1, r1, q1⟩ => ?_) hs rfl))
  obtain ⟨j, e, q⟩ := q1
  subst e
  cases r1 with
  | cons r rr =>
    cases rr
    obtain ⟨t, rfl⟩ := r
    exact call_range_1 (range_itL I1 (by simpa using q))
theorem pi_rangeL2 {X : Cx} {tg : Expr} {a b : Expr} {ta : TA} {p pos : Pos} (hg : Gl X "range") (hm : X.mg "range" = none) (ha : PA X [a, b] ta) (hs : starEach [a, b] X.env = [(false, eval a X.env), (false, eval b X.env)] := by rfl) (hs2 : starEach [b] X.env = [(false, eval b X.env)] := by rfl) :
    PI X tg (.Call (.Name "range" p) [a, b] [] pos) (iRngL2 ta) := by
  refine ⟨fun pins s σ H R I h => ?_⟩
  refine Call_ (ld_blt I hg hm boot_range (PyProof.Rows.callWith_type1 (thn (ha.run pos pins s σ H _ I h) fun us s1 ⟨vs, H1, I1, r1, q1⟩ => ?_) (by rw [hs, hs2]) (by rw [hs2]; rfl)))
  obtain ⟨i, j, e, q⟩ := q1
  subst e
  cases r1 with
  | cons r rr =>
    cases rr with
    | cons r' rr =>
      cases rr
      obtain ⟨t, rfl⟩ := r
      obtain ⟨t', rfl⟩ := r'
      exact call_range_2 (range_itL I1 q)
/-! ### objects of own classes -/
structure Mn (P : Program) (w : World) (K : PySem.W.Frag) (mg : Str → Option Value) (base : Heap) (CX : CXT) (k : Nat) (C : Addr) (x : Str) (ps : List Str) (sp : Sp) : Prop where
  ex : ∃ f fd, Mk K C f ∧ FnOk P w K mg base CX k f fd ps sp ∧ mg x = some (.ref C) ∧ Binds K fd ps []
structure Nn (P : Program) (w : World) (K : PySem.W.Frag) (mg : Str → Option Value) (base : Heap) (CX : CXT) (k : Nat) (C : Addr) (m : Str) (ps : List Str) (sp : Sp) : Prop where
  cl : Cls K C
  ex : ∃ f fd, Meth K C m f ∧ FnOk P w K mg base CX k f fd ps sp ∧ Binds K fd ps []
section
variable {X : Cx} {CX : CXT} {k : Nat} {C : Addr} {ps : List Str} {sp : Sp} {E : XK} {x m : Str} {p pos apos : Pos} {e o : Expr} {es : List Expr} {t : TA} {ta : TE}
theorem pe_mk (M : Mn X.prog X.w X.K X.mg X.base CX k C x ps sp) (hr : Room (k + 1) X.A) (hg : Gl X x) (hx : Passes CX X E) (ha : PA X (e :: es) t)
    (hdb : (x == ("__debug__" : Str)) = false := by decide) (he : starEach (e :: es) X.env = (false, eval e X.env) :: starEach es X.env := by rfl) (hpl : (backTo pos (starEach es X.env)).any (·.1) = false := by rfl) :
    PE X (.Call (.Name x p) (e :: es) [] pos) (tMake C sp [] E t) := by
  obtain ⟨f, fd, mk, F, hm, b⟩ := M.ex
  exact pe_make mk F hr hg hm b .nil hx ha hdb he hpl
theorem pe_mk0 (M : Mn X.prog X.w X.K X.mg X.base CX k C x ps sp) (hr : Room (k + 1) X.A) (hg : Gl X x) (hx : Passes CX X E)
    (hdb : (x == ("__debug__" : Str)) = false := by decide) : PE X (.Call (.Name x p) [] [] pos) (tMake C sp [] E tNil) := by
  obtain ⟨f, fd, mk, F, hm, b⟩ := M.ex
  exact pe_make0 mk F hr hg hm b .nil hx hdb
theorem pe_md {pl : Sem Bool} (ho : PE X o ta) (N : Nn X.prog X.w X.K X.mg X.base CX k C m ps sp) (hr : Room k X.A) (hx : Passes CX X E) (ha : PA X (e :: es) t)
    (hst : starEach (e :: es) X.env = (false, eval e X.env) :: starEach es X.env := by rfl) (hpl : (backTo pos (starEach es X.env)).any (·.1) = false := by rfl)
    (ht : eval (.Call (.Attribute o m apos) (e :: es) [] pos) X.env = (do
      let ov ← eval o X.env
      standAt apos.atName
      let (f, first) ← holding [ov] (getMethod ov m pl)
      callWith pos f first (backTo pos (starEach (e :: es) X.env)) (backToKw pos (keywordEach [] X.env))) := by rfl) : PE X (.Call (.Attribute o m apos) (e :: es) [] pos) (tMeth C m sp [] E ta t) := by
  obtain ⟨f, fd, hm, F, b⟩ := N.ex
  exact pe_meth ho N.cl hm F hr b .nil hx ha hst hpl ht
theorem pe_md0 {pl : Sem Bool} (ho : PE X o ta) (N : Nn X.prog X.w X.K X.mg X.base CX k C m ps sp) (hr : Room k X.A) (hx : Passes CX X E)
    (ht : eval (.Call (.Attribute o m apos) [] [] pos) X.env = (do
      let ov ← eval o X.env
      standAt apos.atName
      let (f, first) ← holding [ov] (getMethod ov m pl)
      callWith pos f first (backTo pos (starEach [] X.env)) (backToKw pos (keywordEach [] X.env))) := by rfl) : PE X (.Call (.Attribute o m apos) [] [] pos) (tMeth C m sp [] E ta tNil) := by
  obtain ⟨f, fd, hm, F, b⟩ := N.ex
  exact pe_meth0 ho N.cl hm F hr b .nil hx ht
end
def Made (H : Hp) (C : Addr) (R : Addr → Hp → Prop) : Prop := ∀ x dx, H x = none → H dx = none → dx ≠ x → R x (upd (upd H dx (.own x)) x (.ins C dx []))
theorem Made.intro {H : Hp} {C : Addr} {R : Addr → Hp → Prop} (h : ∀ x dx H2, H x = none → Same H H2 → H2 x = some (.ins C dx []) → R x H2) : Made H C R := fun x dx hx hd ne =>
  h x dx _ hx (fun b o e => by rw [upd_ne (ne_of_none e hx), upd_ne (ne_of_none e hd)]; exact e) upd_same
theorem tMake_n {C : Addr} {sp : Sp} {dvs : List V} {E : XK} {t : TA} : tMake C sp dvs E t = fun σ H Q => t σ H fun vs H1 => Made H1 C fun x H2 => sp (.ref x :: (vs ++ dvs)) H2 (fun v H3 => v = .non ∧ Q (.ref x) H3) E := rfl
theorem sFld_n {K : PySem.W.Frag} {ta tv : TE} {f : Str} : sFld K ta tv f = fun D σ H => tv σ H fun y H1 => ta σ H1 fun x H2 => ∃ a C dx fs, x = .ref a ∧ H2 a = some (.ins C dx fs) ∧ Cls K C ∧ NoAttr K C f ∧ fs.length < 1000 ∧
  Upd H2 a (.ins C dx (putF f y fs)) fun H3 => D.nx σ H3 := rfl
theorem ps_fldK {X : Cx} {K : PySem.W.Frag} {o value : Expr} {f : Str} {pos pos' : Pos} {ta tv : TE} (ha : PE X o ta) (hv : PE X value tv) (hs : swapsWith value (some (.Attribute o f pos')) pos.line X.env = pure false) (h : X.K = K := by rfl) : PS X (.Assign [.Attribute o f pos'] value pos) (sFld K ta tv f) := by subst h; exact ps_fld ha hv hs
theorem lk0 {f : Str} {v : V} {r : List (Str × V)} : List.lookup f ((f, v) :: r) = some v := by simp [List.lookup]
theorem lk1 {f g : Str} {v : V} {r : List (Str × V)} {o : Option V} (h : (g == f) = false) (k : List.lookup g r = o) : List.lookup g ((f, v) :: r) = o := by
  rw [List.lookup_cons, h]
  exact k
theorem putF0 {f : Str} {v x : V} {r : List (Str × V)} : putF f v ((f, x) :: r) = (f, v) :: r := by
  unfold putF
  rw [if_pos rfl]
theorem putF1 {f g : Str} {v x : V} {r : List (Str × V)} (h : ¬ g = f) : putF f v ((g, x) :: r) = (g, x) :: putF f v r := by
  show (if g = f then _ else _) = _
  rw [if_neg h]
def rInsert : V → List V → Hp → VK → Prop := fun x vs H Q => ∃ (l : Addr) (xs : List V) (i : Int) (y : V), x = .ref l ∧ vs = [.int i, y] ∧ H l = some (.lst xs) ∧ xs.length < sizeLine ∧ 0 ≤ i ∧ i < 2 ^ 63 ∧ Upd H l (.lst (xs.take i.toNat ++ [y] ++ xs.drop i.toNat)) fun H2 => Q .non H2
theorem mt_insertR {X : Cx} : MtR X "list.insert" rInsert := mt_insert
theorem rRemI_n : rRemI = fun x xs H Q => ∃ (l : Addr) (ns : List Int) (k : Int) (j : Nat), x = V.ref l ∧ xs = [V.int k] ∧ H l = some (.lst (ns.map V.int)) ∧ ns[j]? = some k ∧ (∀ m : Nat, m < j → ns[m]? ≠ some k) ∧ Upd H l (.lst ((ns.eraseIdx j).map V.int)) fun H2 => Q .non H2 := rfl
theorem inV_int (n : Int) : ∀ ns : List Int, inV (.int n) (ns.map V.int) = decide (n ∈ ns)
  | [] => rfl
  | a :: r => by
    have e : inV (.int n) ((a :: r).map V.int) = (eqV (.int a) (.int n) || inV (.int n) (r.map V.int)) := rfl
    rw [e, inV_int n r]
    have e2 : eqV (.int a) (.int n) = decide (a = n) := by
      unfold eqV
      rfl
    rw [e2]
    by_cases h : a = n
    · subst h
      simp
    · simp [h, Ne.symm h]
theorem flat_ints : ∀ ns : List Int, (ns.map V.int).all flatV = true
  | [] => rfl
  | _ :: r => flat_ints r

/-! ### loops by an invariant -/
theorem Loop.list {K : PySem.W.Frag} {a : Addr} {xs : List V} {g : TG} {tb : TS} {D : Ends} {σ : L2.St} {H : Hp} (Pv : Nat → L2.St → Hp → Prop) (h0 : Pv 0 σ H) (hl : ∀ i σ H, i ≤ xs.length → Pv i σ H → SqL K H a xs)
    (hs : ∀ i x σ H, xs[i]? = some x → Pv i σ H → g x σ H fun σ2 H2 => tb { D with nx := Pv (i + 1), ct := Pv (i + 1), bk := D.nx } σ2 H2) (hd : ∀ σ H, Pv xs.length σ H → D.nx σ H) : Loop (Itl K a) g tb D σ H := for_list Pv h0 hl hs hd
theorem Loop.tup {K : PySem.W.Frag} {a : Addr} {xs : List V} {g : TG} {tb : TS} {D : Ends} {σ : L2.St} {H : Hp} (Pv : Nat → L2.St → Hp → Prop) (h0 : Pv 0 σ H) (hl : ∀ i σ H, i ≤ xs.length → Pv i σ H → SqT K H a xs)
    (hs : ∀ i x σ H, xs[i]? = some x → Pv i σ H → g x σ H fun σ2 H2 => tb { D with nx := Pv (i + 1), ct := Pv (i + 1), bk := D.nx } σ2 H2) (hd : ∀ σ H, Pv xs.length σ H → D.nx σ H) : Loop (Itt K a) g tb D σ H := for_tup Pv h0 hl hs hd
theorem Loop.range {lo : Int} {n : Nat} {g : TG} {tb : TS} {D : Ends} {σ : L2.St} {H : Hp} (Pv : Nat → L2.St → Hp → Prop) (h0 : Pv 0 σ H)
    (hs : ∀ i σ H, i < n → Pv i σ H → g (.int (lo + i)) σ H fun σ2 H2 => tb { D with nx := Pv (i + 1), ct := Pv (i + 1), bk := D.nx } σ2 H2) (hd : ∀ σ H, Pv n σ H → D.nx σ H) : Loop (Itr lo n) g tb D σ H := for_range Pv h0 hs hd
theorem Loop.rev {K : PySem.W.Frag} {a : Addr} {xs : List V} {n : Nat} {g : TG} {tb : TS} {D : Ends} {σ : L2.St} {H : Hp} (hn : n = xs.length) (Pv : Nat → L2.St → Hp → Prop) (h0 : Pv 0 σ H) (hl : ∀ i σ H, i ≤ xs.length → Pv i σ H → SqL K H a xs)
    (hs : ∀ i x σ H, xs[xs.length - 1 - i]? = some x → i < xs.length → Pv i σ H → g x σ H fun σ2 H2 => tb { D with nx := Pv (i + 1), ct := Pv (i + 1), bk := D.nx } σ2 H2) (hd : ∀ σ H, Pv xs.length σ H → D.nx σ H) : Loop (Itv K a n) g tb D σ H := by
  subst hn
  refine ⟨fun i m σ H => m = xs.length - i ∧ i ≤ xs.length ∧ Pv i σ H, ⟨xs.length, by simp, Nat.zero_le _, h0⟩, ?_⟩
  rintro i m σ H ⟨rfl, hi, p⟩
  have q := hl i σ H hi p
  by_cases hlt : i < xs.length
  · have hx : xs.length - 1 - i < xs.length := by omega
    refine .inr ⟨⟨hlt, xs, xs[xs.length - 1 - i], q, by simp [hx]⟩, Pv (i + 1), fun σ' H' p' => ⟨xs.length - (i + 1), by omega, rfl, hlt, p'⟩, fun x H' y => ?_⟩
    obtain ⟨e, y⟩ := y
    subst e
    exact hs i x σ _ (y xs q) hlt p
  · have e : i = xs.length := by omega
    subst e
    exact .inl ⟨Nat.le_refl _, hd σ H p⟩
theorem Loop.enum {K : PySem.W.Frag} {a : Addr} {xs : List V} {g : TG} {tb : TS} {D : Ends} {σ : L2.St} {H : Hp} (Pv : Nat → L2.St → Hp → Prop) (h0 : Pv 0 σ H) (hl : ∀ i σ H, i ≤ xs.length → Pv i σ H → SqL K H a xs)
    (hs : ∀ i x σ H T H1, xs[i]? = some x → Pv i σ H → H T = none → Same H H1 → H1 T = some (.tup [.int (i : Nat), x]) → g (.ref T) σ H1 fun σ2 H2 => tb { D with nx := Pv (i + 1), ct := Pv (i + 1), bk := D.nx } σ2 H2) (hd : ∀ σ H, Pv xs.length σ H → D.nx σ H) : Loop (Ite K a) g tb D σ H := by
  refine ⟨fun i m σ H => m = xs.length - i ∧ i ≤ xs.length ∧ Pv i σ H, ⟨xs.length, by simp, Nat.zero_le _, h0⟩, ?_⟩
  rintro i m σ H ⟨rfl, hi, p⟩
  have q := hl i σ H hi p
  by_cases hlt : i < xs.length
  · refine .inr ⟨⟨xs, xs[i], q, by simp [hlt]⟩, Pv (i + 1), fun σ' H' p' => ⟨xs.length - (i + 1), by omega, rfl, hlt, p'⟩, fun v H' y => ?_⟩
    obtain ⟨T, x, rfl, nT, rfl, f⟩ := y
    exact hs i x σ H T _ (f xs q) p nT (same_new nT) upd_same
  · have e : i = xs.length := by omega
    subst e
    exact .inl ⟨⟨xs, q, Nat.le_refl _⟩, hd σ H p⟩
theorem Loop.zip {K : PySem.W.Frag} {a b : Addr} {xs ys : List V} {g : TG} {tb : TS} {D : Ends} {σ : L2.St} {H : Hp} (hn : xs.length = ys.length) (Pv : Nat → L2.St → Hp → Prop) (h0 : Pv 0 σ H) (hl : ∀ i σ H, i ≤ xs.length → Pv i σ H → SqL K H a xs ∧ SqL K H b ys)
    (hs : ∀ i x y σ H T H1, xs[i]? = some x → ys[i]? = some y → Pv i σ H → H T = none → Same H H1 → H1 T = some (.tup [x, y]) → g (.ref T) σ H1 fun σ2 H2 => tb { D with nx := Pv (i + 1), ct := Pv (i + 1), bk := D.nx } σ2 H2) (hd : ∀ σ H, Pv xs.length σ H → D.nx σ H) : Loop (Itz K a b) g tb D σ H := by
  refine ⟨fun i m σ H => m = xs.length - i ∧ i ≤ xs.length ∧ Pv i σ H, ⟨xs.length, by simp, Nat.zero_le _, h0⟩, ?_⟩
  rintro i m σ H ⟨rfl, hi, p⟩
  have q := hl i σ H hi p
  by_cases hlt : i < xs.length
  · refine .inr ⟨⟨xs, ys, xs[i], ys[i]'(by omega), q.1, q.2, by simp [hlt], by simp [show i < ys.length by omega]⟩, Pv (i + 1), fun σ' H' p' => ⟨xs.length - (i + 1), by omega, rfl, hlt, p'⟩, fun v H' y => ?_⟩
    obtain ⟨T, x, y, rfl, nT, rfl, f1, f2⟩ := y
    exact hs i x y σ H T _ (f1 xs q.1) (f2 ys q.2) p nT (same_new nT) upd_same
  · have e : i = xs.length := by omega
    subst e
    exact .inl ⟨⟨xs, ys, q.1, q.2, .inl (Nat.le_refl _)⟩, hd σ H p⟩
theorem Loop.str {z : Str} {g : TG} {tb : TS} {D : Ends} {σ : L2.St} {H : Hp} (Pv : Nat → L2.St → Hp → Prop) (h0 : Pv 0 σ H)
    (hs : ∀ i c σ H, z.cps[i]? = some c → Pv i σ H → g (.str ⟨#[c]⟩) σ H fun σ2 H2 => tb { D with nx := Pv (i + 1), ct := Pv (i + 1), bk := D.nx } σ2 H2) (hd : ∀ σ H, Pv z.cps.size σ H → D.nx σ H) : Loop (Its z) g tb D σ H := by
  refine ⟨fun i m σ H => m = z.cps.size - i ∧ i ≤ z.cps.size ∧ Pv i σ H, ⟨z.cps.size, by simp, Nat.zero_le _, h0⟩, ?_⟩
  rintro i m σ H ⟨rfl, hi, p⟩
  by_cases hlt : i < z.cps.size
  · refine .inr ⟨hlt, Pv (i + 1), fun σ' H' p' => ⟨z.cps.size - (i + 1), by omega, rfl, hlt, p'⟩, fun x H' y => ?_⟩
    obtain ⟨e, c, hc, ex⟩ := y
    subst e ex
    exact hs i c σ _ hc p
  · have e : i = z.cps.size := by omega
    subst e
    exact .inl ⟨Nat.le_refl _, hd σ H p⟩

theorem int_at {ns : List Int} {i : Nat} {x : V} (h : (ns.map V.int)[i]? = some x) : ∃ z, ns[i]? = some z ∧ x = .int z := by
  rw [List.getElem?_map] at h
  cases e : ns[i]? with
  | none =>
    rw [e] at h
    cases h
  | some z =>
    rw [e] at h
    exact ⟨z, rfl, (Option.some.inj h).symm⟩
theorem at_int {ns : List Int} {i : Nat} {z : Int} (h : ns[i]? = some z) : (ns.map V.int)[i]? = some (.int z) := by
  rw [List.getElem?_map, h]
  rfl
theorem take_snoc {α : Type} {l : List α} {i : Nat} {x : α} (h : l[i]? = some x) : l.take (i + 1) = l.take i ++ [x] := by
  rw [List.take_add_one, h]
  rfl
theorem drop_at {α : Type} {l : List α} {i : Nat} {x : α} (h : l[i]? = some x) : l.drop i = x :: l.drop (i + 1) := by
  obtain ⟨hi, e⟩ := List.getElem?_eq_some_iff.mp h
  rw [List.drop_eq_getElem_cons hi, e]
theorem iteN {c A B : Prop} [Decidable c] (hc : ¬ c) (h : B) : if c then A else B := by
  rw [if_neg hc]
  exact h
theorem iteP {c A B : Prop} [Decidable c] (hc : c) (h : A) : if c then A else B := by
  rw [if_pos hc]
  exact h
/-! ### comprehensions -/
/-- what is made so far stands at D; the source stands; an element may change what it likes but D -/
theorem Cmp.list {K : PySem.W.Frag} {a : Addr} {xs : List V} {g : TG} {tt : TT} {te : TE} {vs : List Nat} {σ : L2.St} {H1 : Hp} {Q : VK} (Pv : Addr → Nat → List V → Hp → Prop)
    (h0 : ∀ D H2, H1 D = none → Same H1 H2 → H2 D = some (.lst []) → Pv D 0 [] H2) (hl : ∀ D i acc H, i ≤ xs.length → Pv D i acc H → SqL K H a xs)
    (hs : ∀ D i x acc H (Nx : Hp → Prop), xs[i]? = some x → acc.length ≤ i → Pv D i acc H → (∀ acc' H', acc'.length ≤ i + 1 → Pv D (i + 1) acc' H' → Nx H') → g x (wipe σ vs) H fun σ2 H2 => wipe σ2 vs = wipe σ vs ∧ tt σ2 H2 fun b H3 =>
      if b = true then te σ2 H3 fun y H4 => ∃ acc, H4 D = some (.lst acc) ∧ acc.length < sizeLine ∧ Nx (upd H4 D (.lst (acc ++ [y]))) else Nx H3) (hd : ∀ D acc H, acc.length ≤ xs.length → Pv D xs.length acc H → Q (.ref D) H) : Cmp (Itl K a) g tt te vs σ H1 Q := fun D nD =>
  lc_list (K := K) (a := a) (xs := xs) (fun i H => ∃ acc, acc.length ≤ i ∧ Pv D i acc H) ⟨[], Nat.zero_le _, h0 D _ nD (same_new nD) upd_same⟩ (fun i H hi ⟨acc, _, p⟩ => hl D i acc H hi p)
    (fun i x H hx ⟨acc, ha, p⟩ => hs D i x acc H _ hx ha p fun acc' H' h1 h2 => ⟨acc', h1, h2⟩) (fun H ⟨acc, ha, p⟩ => hd D acc H ha p)
theorem Cmp.tup {K : PySem.W.Frag} {a : Addr} {xs : List V} {g : TG} {tt : TT} {te : TE} {vs : List Nat} {σ : L2.St} {H1 : Hp} {Q : VK} (Pv : Addr → Nat → List V → Hp → Prop)
    (h0 : ∀ D H2, H1 D = none → Same H1 H2 → H2 D = some (.lst []) → Pv D 0 [] H2) (hl : ∀ D i acc H, i ≤ xs.length → Pv D i acc H → SqT K H a xs)
    (hs : ∀ D i x acc H (Nx : Hp → Prop), xs[i]? = some x → acc.length ≤ i → Pv D i acc H → (∀ acc' H', acc'.length ≤ i + 1 → Pv D (i + 1) acc' H' → Nx H') → g x (wipe σ vs) H fun σ2 H2 => wipe σ2 vs = wipe σ vs ∧ tt σ2 H2 fun b H3 =>
      if b = true then te σ2 H3 fun y H4 => ∃ acc, H4 D = some (.lst acc) ∧ acc.length < sizeLine ∧ Nx (upd H4 D (.lst (acc ++ [y]))) else Nx H3) (hd : ∀ D acc H, acc.length ≤ xs.length → Pv D xs.length acc H → Q (.ref D) H) : Cmp (Itt K a) g tt te vs σ H1 Q := fun D nD =>
  lc_tup (K := K) (a := a) (xs := xs) (fun i H => ∃ acc, acc.length ≤ i ∧ Pv D i acc H) ⟨[], Nat.zero_le _, h0 D _ nD (same_new nD) upd_same⟩ (fun i H hi ⟨acc, _, p⟩ => hl D i acc H hi p)
    (fun i x H hx ⟨acc, ha, p⟩ => hs D i x acc H _ hx ha p fun acc' H' h1 h2 => ⟨acc', h1, h2⟩) (fun H ⟨acc, ha, p⟩ => hd D acc H ha p)
theorem Cmp.range {lo : Int} {n : Nat} {g : TG} {tt : TT} {te : TE} {vs : List Nat} {σ : L2.St} {H1 : Hp} {Q : VK} (Pv : Addr → Nat → List V → Hp → Prop)
    (h0 : ∀ D H2, H1 D = none → Same H1 H2 → H2 D = some (.lst []) → Pv D 0 [] H2)
    (hs : ∀ D i acc H (Nx : Hp → Prop), i < n → acc.length ≤ i → Pv D i acc H → (∀ acc' H', acc'.length ≤ i + 1 → Pv D (i + 1) acc' H' → Nx H') → g (.int (lo + i)) (wipe σ vs) H fun σ2 H2 => wipe σ2 vs = wipe σ vs ∧ tt σ2 H2 fun b H3 =>
      if b = true then te σ2 H3 fun y H4 => ∃ acc, H4 D = some (.lst acc) ∧ acc.length < sizeLine ∧ Nx (upd H4 D (.lst (acc ++ [y]))) else Nx H3) (hd : ∀ D acc H, acc.length ≤ n → Pv D n acc H → Q (.ref D) H) : Cmp (Itr lo n) g tt te vs σ H1 Q := fun D nD =>
  lc_range (lo := lo) (n := n) (fun i H => ∃ acc, acc.length ≤ i ∧ Pv D i acc H) ⟨[], Nat.zero_le _, h0 D _ nD (same_new nD) upd_same⟩
    (fun i H hx ⟨acc, ha, p⟩ => hs D i acc H _ hx ha p fun acc' H' h1 h2 => ⟨acc', h1, h2⟩) (fun H ⟨acc, ha, p⟩ => hd D acc H ha p)
theorem push {D : Addr} {i : Nat} {acc : List V} {y : V} {H4 : Hp} {Nx : Hp → Prop} {PV : List V → Hp → Prop} (hN : ∀ acc' H', acc'.length ≤ i + 1 → PV acc' H' → Nx H') (ha : acc.length ≤ i) (h : H4 D = some (.lst acc)) (hi : i < 1000000)
    (hp : ∀ H5, Off D H4 H5 → H5 D = some (.lst (acc ++ [y])) → PV (acc ++ [y]) H5) : ∃ acc, H4 D = some (.lst acc) ∧ acc.length < sizeLine ∧ Nx (upd H4 D (.lst (acc ++ [y]))) :=
  ⟨acc, h, Nat.lt_of_lt_of_le (Nat.lt_of_le_of_lt ha hi) (by decide), hN _ _ (by rw [List.length_append]; exact Nat.succ_le_succ ha) (hp _ Off.upd upd_same)⟩
/-- elements that change nothing, over a list; with a test -/
theorem Cmp.pureF {K : PySem.W.Frag} {a : Addr} {xs : List V} {j : Nat} {tt : TT} {te : TE} {vs : List Nat} {σ : L2.St} {H1 : Hp} {Q : VK} (p : V → Bool) (f : V → V) (hS : SqL K H1 a xs) (hz : xs.length ≤ 100000) (hw : ∀ x, wipe ((wipe σ vs).set j (some x)) vs = wipe σ vs)
    (ht : ∀ x H2 (R : Bool → Hp → Prop), x ∈ xs → Same H1 H2 → (∀ H3, Same H2 H3 → R (p x) H3) → tt ((wipe σ vs).set j (some x)) H2 R)
    (he : ∀ x H2 (R : VK), x ∈ xs → p x = true → Same H1 H2 → (∀ H3, Same H2 H3 → R (f x) H3) → te ((wipe σ vs).set j (some x)) H2 R)
    (hd : ∀ l H2, H1 l = none → Same H1 H2 → H2 l = some (.lst ((xs.filter p).map f)) → Q (.ref l) H2) : Cmp (Itl K a) (gName j) tt te vs σ H1 Q := by
  refine Cmp.list (xs := xs) (fun D i acc H => H1 D = none ∧ Same H1 H ∧ H D = some (.lst acc) ∧ acc = ((xs.take i).filter p).map f) (fun D H2 nD s2 h2 => ⟨nD, s2, h2, by simp⟩) (fun D i acc H _ ⟨_, s2, _⟩ => s2.seq hS) ?_ ?_
  · rintro D i x acc H Nx hx ha ⟨nD, s2, h2, ea⟩ hN
    have hi : i < xs.length := (List.getElem?_eq_some_iff.mp hx).1
    have hm := List.mem_of_getElem? hx
    refine ⟨hw x, ht x H _ hm s2 fun H3 s3 => ?_⟩
    cases hp : p x with
    | true =>
      rw [if_pos rfl]
      refine he x H3 _ hm hp (s2.trans s3) fun H4 s4 => push hN ha (s4 _ _ (s3 _ _ h2)) (by omega) fun H5 o5 h5 => ⟨nD, Same.off ((s2.trans s3).trans s4) nD o5, h5, ?_⟩
      rw [ea, take_snoc hx, List.filter_append, List.map_append]
      simp [hp]
    | false =>
      rw [if_neg Bool.false_ne_true]
      refine hN acc H3 (Nat.le_succ_of_le ha) ⟨nD, s2.trans s3, s3 _ _ h2, ?_⟩
      rw [ea, take_snoc hx, List.filter_append, List.map_append]
      simp [hp]
  · rintro D acc H _ ⟨nD, s2, h2, ea⟩
    rw [List.take_length] at ea
    exact hd D H nD s2 (ea ▸ h2)
theorem Cmp.pureL {K : PySem.W.Frag} {a : Addr} {xs : List V} {j : Nat} {te : TE} {vs : List Nat} {σ : L2.St} {H1 : Hp} {Q : VK} (f : V → V) (hS : SqL K H1 a xs) (hz : xs.length ≤ 100000) (hw : ∀ x, wipe ((wipe σ vs).set j (some x)) vs = wipe σ vs)
    (he : ∀ x H2 (R : VK), x ∈ xs → Same H1 H2 → (∀ H3, Same H2 H3 → R (f x) H3) → te ((wipe σ vs).set j (some x)) H2 R)
    (hd : ∀ l H2, H1 l = none → Same H1 H2 → H2 l = some (.lst (xs.map f)) → Q (.ref l) H2) : Cmp (Itl K a) (gName j) tYes te vs σ H1 Q :=
  Cmp.pureF (fun _ => true) f hS hz hw (fun x H2 R _ _ h => h H2 (Same.refl H2)) (fun x H2 R hm _ => he x H2 R hm) fun l H2 n s h => hd l H2 n s (by rw [List.filter_eq_self.mpr (fun _ _ => rfl)] at h; exact h)
theorem Cmp.pureRF {lo : Int} {n : Nat} {j : Nat} {tt : TT} {te : TE} {vs : List Nat} {σ : L2.St} {H1 : Hp} {Q : VK} (p : Nat → Bool) (f : Nat → V) (hz : n ≤ 100000) (hw : ∀ x, wipe ((wipe σ vs).set j (some x)) vs = wipe σ vs)
    (ht : ∀ i H2 (R : Bool → Hp → Prop), i < n → Same H1 H2 → (∀ H3, Same H2 H3 → R (p i) H3) → tt ((wipe σ vs).set j (some (.int (lo + (i : Int))))) H2 R)
    (he : ∀ i H2 (R : VK), i < n → p i = true → Same H1 H2 → (∀ H3, Same H2 H3 → R (f i) H3) → te ((wipe σ vs).set j (some (.int (lo + (i : Int))))) H2 R)
    (hd : ∀ l H2, H1 l = none → Same H1 H2 → H2 l = some (.lst (((List.range n).filter p).map f)) → Q (.ref l) H2) : Cmp (Itr lo n) (gName j) tt te vs σ H1 Q := by
  refine Cmp.range (fun D i acc H => H1 D = none ∧ Same H1 H ∧ H D = some (.lst acc) ∧ acc = ((List.range i).filter p).map f) (fun D H2 nD s2 h2 => ⟨nD, s2, h2, by simp⟩) ?_ ?_
  · rintro D i acc H Nx hi ha ⟨nD, s2, h2, ea⟩ hN
    refine ⟨hw _, ht i H _ hi s2 fun H3 s3 => ?_⟩
    cases hp : p i with
    | true =>
      rw [if_pos rfl]
      refine he i H3 _ hi hp (s2.trans s3) fun H4 s4 => push hN ha (s4 _ _ (s3 _ _ h2)) (by omega) fun H5 o5 h5 => ⟨nD, Same.off ((s2.trans s3).trans s4) nD o5, h5, ?_⟩
      rw [ea, List.range_succ, List.filter_append, List.map_append]
      simp [hp]
    | false =>
      rw [if_neg Bool.false_ne_true]
      refine hN acc H3 (Nat.le_succ_of_le ha) ⟨nD, s2.trans s3, s3 _ _ h2, ?_⟩
      rw [ea, List.range_succ, List.filter_append, List.map_append]
      simp [hp]
  · rintro D acc H _ ⟨nD, s2, h2, ea⟩
    exact hd D H nD s2 (ea ▸ h2)
theorem Cmp.pureR {lo : Int} {n : Nat} {j : Nat} {te : TE} {vs : List Nat} {σ : L2.St} {H1 : Hp} {Q : VK} (f : Nat → V) (hz : n ≤ 100000) (hw : ∀ x, wipe ((wipe σ vs).set j (some x)) vs = wipe σ vs)
    (he : ∀ i H2 (R : VK), i < n → Same H1 H2 → (∀ H3, Same H2 H3 → R (f i) H3) → te ((wipe σ vs).set j (some (.int (lo + (i : Int))))) H2 R)
    (hd : ∀ l H2, H1 l = none → Same H1 H2 → H2 l = some (.lst ((List.range n).map f)) → Q (.ref l) H2) : Cmp (Itr lo n) (gName j) tYes te vs σ H1 Q :=
  Cmp.pureRF (fun _ => true) f hz hw (fun x H2 R _ _ h => h H2 (Same.refl H2)) (fun x H2 R hm _ => he x H2 R hm) fun l H2 n s h => hd l H2 n s (by rw [List.filter_eq_self.mpr (fun _ _ => rfl)] at h; exact h)

theorem sq_true {K : PySem.W.Frag} {H : Hp} {l : Addr} {α : Type} {ys : List α} (h : H l = some (.lst (ys.map fun _ => V.bl true))) : SqL K H l ((ys.map fun _ => true).map V.bl) := by
  rw [List.map_map]
  exact seq_of h
theorem all_true {α : Type} : ∀ ys : List α, (ys.map fun _ => true).all id = true
  | [] => rfl
  | _ :: r => all_true r
theorem cut_to (xs : List V) (j : Nat) : cutV xs none (some (j : Int)) = xs.take j := by
  unfold cutV
  rw [HT.sIx_none, HT.sIx_nat, List.drop_zero, Nat.sub_zero]
  by_cases h : j ≤ xs.length
  · rw [Nat.min_eq_left h]
  · rw [Nat.min_eq_right (by omega), List.take_of_length_le (Nat.le_refl _), List.take_of_length_le (by omega)]
theorem cut_from (xs : List V) (j : Nat) : cutV xs (some (j : Int)) none = xs.drop j := by
  unfold cutV
  rw [HT.sIx_none, HT.sIx_nat]
  by_cases h : j ≤ xs.length
  · rw [Nat.min_eq_left h, List.take_of_length_le (by rw [List.length_drop]; omega)]
  · rw [Nat.min_eq_right (by omega), List.drop_eq_nil_of_le (Nat.le_refl _), List.drop_eq_nil_of_le (by omega), List.take_nil]

/-! ### data -/
def pd : V → PyData
  | .bl b => .bool b
  | .int i => .int i
  | .str x => .str x
  | _ => .none
def isPd : V → Bool
  | .bl _ => true
  | .int _ => true
  | .str x => PyData.strOk x
  | .non => true
  | _ => false
theorem dp_pd {K : PySem.W.Frag} {H : Hp} : ∀ {x : V}, isPd x = true → Dp K H x (pd x)
  | .non, _ => .non
  | .bl b, _ => .bl b
  | .int i, _ => .int i
  | .str x, _ => .str x
theorem dpAll_pd {K : PySem.W.Frag} {H : Hp} : ∀ {xs : List V}, xs.all isPd = true → DpAll K H xs (xs.map pd)
  | [], _ => .nil
  | x :: xs, h => by
    rw [List.all_cons, Bool.and_eq_true] at h
    exact .cons (dp_pd h.1) (dpAll_pd h.2)
theorem ints_pd : ∀ ns : List Int, (ns.map V.int).all isPd = true
  | [] => rfl
  | _ :: r => ints_pd r
theorem dp_lst {K : PySem.W.Frag} {H : Hp} {a : Addr} {xs : List V} (h : SqL K H a xs) (hx : xs.all isPd = true) : Dp K H (.ref a) (.list (xs.map pd)) := .lst h (dpAll_pd hx)
theorem dp_tup {K : PySem.W.Frag} {H : Hp} {a : Addr} {xs : List V} (h : SqT K H a xs) (hx : xs.all isPd = true) : Dp K H (.ref a) (.tuple (xs.map pd)) := .tup h (dpAll_pd hx)
theorem pd_lay : ∀ {x : V}, isPd x = true → (pd x).canLay0 = true
  | .non, _ => rfl
  | .bl _, _ => rfl
  | .int _, _ => rfl
  | .str x, h => h
theorem pd_layAll : ∀ {xs : List V}, xs.all isPd = true → PyData.canLayAll0 (xs.map pd) = true
  | [], _ => rfl
  | x :: xs, h => by
    rw [List.all_cons, Bool.and_eq_true] at h
    show ((pd x).canLay0 && PyData.canLayAll0 (xs.map pd)) = true
    rw [pd_lay h.1, pd_layAll h.2]
    rfl
theorem pd_depth : ∀ x : V, (pd x).depth = 0
  | .non => rfl
  | .bl _ => rfl
  | .int _ => rfl
  | .str _ => rfl
  | .byt _ => rfl
  | .flt _ => rfl
  | .ref _ => rfl
  | .ty _ => rfl

theorem pd_depthAll : ∀ xs : List V, PyData.depthAll (xs.map pd) = 0
  | [] => rfl
  | x :: xs => by
    show max (pd x).depth (PyData.depthAll (xs.map pd)) = 0
    rw [pd_depth, pd_depthAll]
    rfl
theorem shaped_lst {xs : List V} (h : xs.all isPd = true) : SeqAt.shaped (.list (xs.map pd)) = true := by
  have e : (PyData.list (xs.map pd)).depth = 1 := by
    show PyData.depthAll (xs.map pd) + 1 = 1
    rw [pd_depthAll]
  show ((PyData.canLayAll0 (xs.map pd)) && decide ((PyData.list (xs.map pd)).depth ≤ 64)) = true
  rw [pd_layAll h, e]
  rfl
theorem shaped_tup {xs : List V} (h : xs.all isPd = true) : SeqAt.shaped (.tuple (xs.map pd)) = true := by
  have e : (PyData.tuple (xs.map pd)).depth = 1 := by
    show PyData.depthAll (xs.map pd) + 1 = 1
    rw [pd_depthAll]
  show ((PyData.canLayAll0 (xs.map pd)) && decide ((PyData.tuple (xs.map pd)).depth ≤ 64)) = true
  rw [pd_layAll h, e]
  rfl
theorem eqvAll_ints : ∀ ns ms : List Int, PyData.eqvAll ((ns.map V.int).map pd) ((ms.map V.int).map pd) = decide (ns = ms)
  | [], [] => rfl
  | [], _ :: _ => rfl
  | _ :: _, [] => rfl
  | a :: r, b :: t => by
    show ((a == b) && PyData.eqvAll ((r.map V.int).map pd) ((t.map V.int).map pd)) = decide (a :: r = b :: t)
    rw [eqvAll_ints r t]
    by_cases h : a = b
    · subst h
      simp
    · simp [h]
theorem eqv_ints (ns ms : List Int) : PyData.eqv (.list ((ns.map V.int).map pd)) (.list ((ms.map V.int).map pd)) = decide (ns = ms) := eqvAll_ints ns ms
/-- == of two lists of ints -/
theorem eq_ints {K : PySem.W.Frag} {H : Hp} {a b : Addr} {ns ms : List Int} {Q : VK} (ha : SqL K H a (ns.map V.int)) (hb : SqL K H b (ms.map V.int)) (q : Q (.bl (decide (ns = ms))) H) : rEqD K (.ref a) (.ref b) H Q :=
  ⟨_, _, dp_lst ha (ints_pd ns), dp_lst hb (ints_pd ms), shaped_lst (ints_pd ns), shaped_lst (ints_pd ms), by rw [eqv_ints]; exact q⟩
theorem ne_ints {K : PySem.W.Frag} {H : Hp} {a b : Addr} {ns ms : List Int} {Q : VK} (ha : SqL K H a (ns.map V.int)) (hb : SqL K H b (ms.map V.int)) (q : Q (.bl (!decide (ns = ms))) H) : rNeD K (.ref a) (.ref b) H Q :=
  ⟨_, _, dp_lst ha (ints_pd ns), dp_lst hb (ints_pd ms), shaped_lst (ints_pd ns), shaped_lst (ints_pd ms), by rw [eqv_ints]; exact q⟩
/-- == of equal data -/
theorem eq_tups {K : PySem.W.Frag} {H : Hp} {a b : Addr} {xs : List V} {Q : VK} (ha : SqT K H a xs) (hb : SqT K H b xs) (hx : xs.all isPd = true) (q : Q (.bl true) H) : rEqD K (.ref a) (.ref b) H Q :=
  ⟨_, _, dp_tup ha hx, dp_tup hb hx, shaped_tup hx, shaped_tup hx, by rw [SeqAt.eqv_refl (.tuple (xs.map pd)) (show PyData.canLayAll0 (xs.map pd) = true from pd_layAll hx)]; exact q⟩

/-- the type of a list, of a tuple, of an int that is told -/
theorem tyv_list {K : PySem.W.Frag} {H : Hp} {a : Addr} {xs : List V} (h : SqL K H a xs) : tyV K "list" (.ref a) H := .inl ⟨rfl, _, h⟩
theorem ty_int {K : PySem.W.Frag} {H : Hp} {i : Int} : TyX K H (.int i) (.type "int") := .base (.int i)
theorem ty_lst {K : PySem.W.Frag} {H : Hp} {a : Addr} {xs : List V} (h : H a = some (.lst xs)) : TyX K H (.ref a) (.type "list") := .base (.lst h)
theorem ty_tup {K : PySem.W.Frag} {H : Hp} {a : Addr} {xs : List V} (h : H a = some (.tup xs)) : TyX K H (.ref a) (.type "tuple") := .base (.tup h)

theorem scal_ii {i j : Int} : scal (.int i) (.int j) = true := rfl
theorem scal_bb {i j : Bool} : scal (.bl i) (.bl j) = true := rfl
theorem scal_ss {i j : Str} : scal (.str i) (.str j) = true := rfl
theorem scal_nn : scal .non .non = true := rfl
theorem scal_ni {j : Int} : scal .non (.int j) = true := rfl
theorem scal_in {j : Int} : scal (.int j) .non = true := rfl
theorem scal_ns {j : Str} : scal .non (.str j) = true := rfl
theorem scal_sn {j : Str} : scal (.str j) .non = true := rfl
theorem scal_is {i : Int} {j : Str} : scal (.int i) (.str j) = true := rfl
theorem scal_si {i : Int} {j : Str} : scal (.str j) (.int i) = true := rfl

/-! == of lists of tuples -/
def pdT (d : List V) : PyData := .tuple (d.map pd)
theorem dp_tups {K : PySem.W.Frag} {H : Hp} : ∀ {xs : List V} {ds : List (List V)}, Tups K H xs ds → (∀ d ∈ ds, d.all isPd = true) → DpAll K H xs (ds.map pdT)
  | _, _, .nil, _ => .nil
  | _, _, .cons (b := d) ⟨a, e, h⟩ t, hd => by
    subst e
    exact .cons (dp_tup h (hd d List.mem_cons_self)) (dp_tups t fun d h => hd d (List.mem_cons_of_mem _ h))
theorem lay_tups : ∀ {ds : List (List V)}, (∀ d ∈ ds, d.all isPd = true) → PyData.canLayAll0 (ds.map pdT) = true
  | [], _ => rfl
  | d :: r, h => by
    show (PyData.canLayAll0 (d.map pd) && PyData.canLayAll0 (r.map pdT)) = true
    rw [pd_layAll (h d List.mem_cons_self), lay_tups fun d hd => h d (List.mem_cons_of_mem _ hd)]
    rfl
theorem depth_tups : ∀ ds : List (List V), PyData.depthAll (ds.map pdT) ≤ 1
  | [] => by show 0 ≤ 1; decide
  | d :: r => by
    show max (PyData.depthAll (d.map pd) + 1) (PyData.depthAll (r.map pdT)) ≤ 1
    rw [pd_depthAll]
    have := depth_tups r
    omega
theorem shaped_tups {ds : List (List V)} (h : ∀ d ∈ ds, d.all isPd = true) : SeqAt.shaped (.list (ds.map pdT)) = true := by
  have e : (PyData.list (ds.map pdT)).depth ≤ 64 := by
    show PyData.depthAll (ds.map pdT) + 1 ≤ 64
    have := depth_tups ds
    omega
  show ((PyData.canLayAll0 (ds.map pdT)) && decide ((PyData.list (ds.map pdT)).depth ≤ 64)) = true
  rw [lay_tups h, decide_eq_true e]
  rfl
theorem eqv_tups {ds : List (List V)} (h : ∀ d ∈ ds, d.all isPd = true) : PyData.eqv (.list (ds.map pdT)) (.list (ds.map pdT)) = true := SeqAt.eqv_refl (.list (ds.map pdT)) (show PyData.canLayAll0 (ds.map pdT) = true from lay_tups h)
theorem eq_tupsL {K : PySem.W.Frag} {H : Hp} {a b : Addr} {xs ys : List V} {ds : List (List V)} {Q : VK} (ha : SqL K H a xs) (hb : SqL K H b ys) (t : Tups K H xs ds) (u : Tups K H ys ds) (hd : ∀ d ∈ ds, d.all isPd = true) (q : Q (.bl true) H) : rEqD K (.ref a) (.ref b) H Q :=
  ⟨_, _, .lst ha (dp_tups t hd), .lst hb (dp_tups u hd), shaped_tups hd, shaped_tups hd, by rw [eqv_tups hd]; exact q⟩
theorem ne_tupsL {K : PySem.W.Frag} {H : Hp} {a b : Addr} {xs ys : List V} {ds : List (List V)} {Q : VK} (ha : SqL K H a xs) (hb : SqL K H b ys) (t : Tups K H xs ds) (u : Tups K H ys ds) (hd : ∀ d ∈ ds, d.all isPd = true) (q : Q (.bl false) H) : rNeD K (.ref a) (.ref b) H Q :=
  ⟨_, _, .lst ha (dp_tups t hd), .lst hb (dp_tups u hd), shaped_tups hd, shaped_tups hd, by rw [eqv_tups hd]; exact q⟩

/-! ### list + list, whoever holds them -/
def rCatR (K : PySem.W.Frag) : R2 := fun x y H Q => ∃ l b xs zs, x = .ref l ∧ y = .ref b ∧ SqL K H l xs ∧ SqL K H b zs ∧ xs.length + zs.length ≤ sizeLine ∧ New H (.lst (xs ++ zs)) fun p H2 => Q (.ref p) H2
theorem op_catS {X : Cx} {K : PySem.W.Frag} (h : X.K = K := by rfl) : OpR X (binaryOp .Add) (rCatR K) := by
  subst h
  intro pins s σ H x y v u Q I rx ry h
  obtain ⟨l, b, xs, zs, rfl, rfl, hH, hB, hz, q⟩ := h
  cases rx
  cases ry
  obtain ⟨its, r, ⟨⟨cls, dd, dt, sl⟩, n, e, hc, hd0, hd⟩, hz1⟩ := I.list hH
  obtain ⟨its2, r2, ⟨⟨cls2, dd2, dt2, sl2⟩, n2, e2, hc2, hd02, hd2⟩, hz2⟩ := I.list hB
  simp only at hc hd hc2 hd2
  subst hc hd hc2 hd2
  have hl := r.length
  have hl2 := r2.length
  have ea : its.toArray ++ its2.toArray = (its ++ its2).toArray := by simp
  refine concat_meets ⟨_, e, rfl⟩ ⟨_, e2, rfl⟩ noFill_list_add seq_list_add PySem.F.slot_list_add PySem.F.entry_list_add (PySem.F.args_list_add_2 _ _) (list_addW l b its.toArray its2.toArray n n2 dd dd2 sl sl2 (by rw [List.size_toArray, List.size_toArray]; omega)) ⟨e, e2, ?_⟩
  rw [ea]
  exact ⟨.ref _, _, I.lnew (t' := s.toks) (r.append r2) (by rw [List.length_append]; omega), rfl, q _ I.fresh⟩

/-! ### int(x), [x] * n, == of equal lists -/
def rInt1 : List V → Hp → VK → Prop := fun xs H Q => (∃ i, xs = [.int i] ∧ Q (.int i) H) ∨ ∃ k, xs = [.bl k] ∧ Q (.int (if k then 1 else 0)) H
theorem call_int1R {X : Cx} : CallR X (.type "int") rInt1 := call_int1
theorem rRep_n : rRep = fun x y H Q => ∃ l k xs, x = .ref l ∧ y = .int k ∧ H l = some (.lst xs) ∧ -(2 ^ 63) ≤ k ∧ k < 2 ^ 63 ∧ xs.length * k.toNat ≤ sizeLine ∧ New H (.lst (List.replicate k.toNat xs).flatten) fun p H2 => Q (.ref p) H2 := rfl
theorem eq_lst {K : PySem.W.Frag} {H : Hp} {a b : Addr} {xs : List V} {Q : VK} (ha : SqL K H a xs) (hb : SqL K H b xs) (hx : xs.all isPd = true) (q : Q (.bl true) H) : rEqD K (.ref a) (.ref b) H Q :=
  ⟨_, _, dp_lst ha hx, dp_lst hb hx, shaped_lst hx, shaped_lst hx, by rw [SeqAt.eqv_refl (.list (xs.map pd)) (show PyData.canLayAll0 (xs.map pd) = true from pd_layAll hx)]; exact q⟩
theorem ne_lst {K : PySem.W.Frag} {H : Hp} {a b : Addr} {xs : List V} {Q : VK} (ha : SqL K H a xs) (hb : SqL K H b xs) (hx : xs.all isPd = true) (q : Q (.bl false) H) : rNeD K (.ref a) (.ref b) H Q :=
  ⟨_, _, dp_lst ha hx, dp_lst hb hx, shaped_lst hx, shaped_lst hx, by rw [SeqAt.eqv_refl (.list (xs.map pd)) (show PyData.canLayAll0 (xs.map pd) = true from pd_layAll hx)]; exact q⟩
theorem cut_init (xs : List V) (x : V) : cutV (xs ++ [x]) none (some (-1)) = xs := by
  unfold cutV HT.sIx
  simp only [List.length_append, List.length_singleton, List.drop_zero, Nat.sub_zero]
  rw [if_pos (by decide), show (-1 + ((xs.length + 1 : Nat) : Int)).toNat = xs.length by omega, List.take_append_of_le_length (Nat.le_refl _), List.take_length]
theorem cut_mid (xs : List V) (i j : Nat) : cutV xs (some (i : Int)) (some (j : Int)) = (xs.drop i).take (j - i) := by
  unfold cutV
  rw [HT.sIx_nat, HT.sIx_nat]
  by_cases h : i ≤ xs.length
  · rw [Nat.min_eq_left h]
    by_cases h2 : j ≤ xs.length
    · rw [Nat.min_eq_left h2]
    · rw [Nat.min_eq_right (by omega), List.take_of_length_le (by rw [List.length_drop]; omega), List.take_of_length_le (by rw [List.length_drop]; omega)]
  · have e : min i xs.length = xs.length := Nat.min_eq_right (by omega)
    rw [e, List.drop_eq_nil_of_le (Nat.le_refl _), List.drop_eq_nil_of_le (show xs.length ≤ i by omega), List.take_nil, List.take_nil]
/-! ### len(set(xs)) of ints -/
def tLenSetS (K : PySem.W.Frag) (ta : TE) : TE := fun σ H Q => ta σ H fun x H1 => ∃ (l : Addr) (ns : List Int), x = .ref l ∧ SqL K H1 l (ns.map V.int) ∧ ns.length ≤ 4000 ∧ ∀ ds : List Int, ds.Nodup → (∀ k, k ∈ ds ↔ k ∈ ns) → Q (.int (ds.length : Nat)) H1
theorem firstMet_nd (val : Nat → Int) : ∀ i, (PyProof.Rows.firstMet val i).Nodup
  | 0 => List.nodup_nil
  | i + 1 => by
    rw [PyProof.Rows.firstMet_succ]
    unfold PyProof.Rows.step_dedup
    split
    · exact firstMet_nd val i
    · rename_i h
      rw [List.nodup_append]
      refine ⟨firstMet_nd val i, List.nodup_cons.mpr ⟨List.not_mem_nil, List.nodup_nil⟩, fun a ha b hb e => h (List.any_eq_true.mpr ⟨a, ha, ?_⟩)⟩
      rw [List.mem_singleton] at hb
      rw [e, hb]
      exact beq_self_eq_true _
theorem firstMet_mem (ns : List Int) (k : Int) : k ∈ PyProof.Rows.firstMet (fun i => ns.getD i 0) ns.length ↔ k ∈ ns := by
  have h := PyProof.Rows.firstMet_any (fun i => ns.getD i 0) ns.length k
  have e : (List.range ns.length).map (fun i => ns.getD i 0) = ns := by
    apply List.ext_getElem
    · rw [List.length_map, List.length_range]
    · intro i h1 h2
      rw [List.getElem_map, List.getElem_range, List.getD_eq_getElem?_getD, List.getElem?_eq_getElem h2]
      rfl
  rw [e] at h
  have mem : ∀ l : List Int, l.any (· == k) = true ↔ k ∈ l := fun l => by
    rw [List.any_eq_true]
    constructor
    · rintro ⟨x, hx, e⟩
      rw [← eq_of_beq e]
      exact hx
    · intro hk
      exact ⟨k, hk, beq_self_eq_true k⟩
  rw [← mem, ← mem, h]
theorem pe_lenSetS {X : Cx} {K : PySem.W.Frag} {a : Expr} {ta : TE} {p p2 q pos : Pos} (hg : Gl X "len") (hm : X.mg "len" = none) (hg2 : Gl X "set") (hm2 : X.mg "set" = none) (ha : PE X a ta) (hc : X.calm = true := by rfl)
    (na : starEach [a] X.env = (false, eval a X.env) :: starEach [] X.env := by rfl) (hK : X.K = K := by rfl) : PE X (.Call (.Name "len" p) [.Call (.Name "set" p2) [a] [] q] [] pos) (tLenSetS K ta) := by
  subst hK
  refine ⟨fun pins s σ H Q I h => ?_⟩
  refine Call_ (ld_blt I hg hm boot_len ?_)
  refine PyProof.Rows.callWith_builtin1 (PyProof.Rows.args_cons ?_ rfl) rfl rfl
  refine Call_ (ld_blt I hg2 hm2 boot_set ?_)
  refine PyProof.Rows.callWith_type1 (PyProof.Rows.args_cons (thn (ha.run pins s σ H _ I h) fun v s1 ⟨x, H1, I1, r1, q1⟩ => PyProof.Rows.args_nil ?_) na) na rfl
  obtain ⟨l, ns, rfl, hq, hl, q1⟩ := q1
  cases r1
  obtain ⟨its, r, pl, hz⟩ := I1.list hq
  have hlen : its.toArray.size = ns.length := by rw [List.size_toArray, ← r.length, List.length_map]
  refine call_set_list (I1.ok.hd hc) pl.isList (by simpa using RZ.intsAre_vals r) (by rw [hlen]; unfold scanBound; omega) fun h' tk hS hk => ?_
  refine PyProof.Rows.args_nil ?_
  rw [hlen] at hS
  have hlt := PyProof.Rows.firstMet_length_le (fun i => ns.getD i 0) ns.length
  have q2 := q1 (PyProof.Rows.firstMet (fun i => ns.getD i 0) ns.length) (firstMet_nd _ _) (firstMet_mem ns)
  generalize PyProof.Rows.firstMet (fun i => ns.getD i 0) ns.length = D at hS hlt q2
  obtain ⟨o, es, ep, t, ho, hex, hd, _, _, _, hf, hn⟩ := hS
  have I2 : Inv X pins σ H1 { s1 with heap := h', toks := tk } := I1.kept fun b o e => hk b o (Heap.lt_size e) e
  exact call_len_set ho hex hd hf (by rw [hn] <;> omega) ⟨.int D.length, H1, I2.tok _, ⟨_, by rw [hn]⟩, q2⟩
theorem eqV_int (a n : Int) : eqV (.int a) (.int n) = decide (a = n) := by
  unfold eqV
  rfl
theorem idx_at {D : List Int} {z : Int} (h : z ∈ D) : D[D.idxOf z]? = some z := by
  have hx := List.idxOf_lt_length_of_mem h
  rw [List.getElem?_eq_getElem hx, List.getElem_idxOf]
theorem idx_ne {D : List Int} {z : Int} (m : Nat) (hm : m < D.idxOf z) : D[m]? ≠ some z := fun e => by
  obtain ⟨h1, h2⟩ := List.getElem?_eq_some_iff.mp e
  have := List.not_of_lt_findIdx (p := (· == z)) (xs := D) (i := m) hm
  simp [h2] at this
end Rb

set_option Elab.async false
set_option linter.all false
set_option pp.deepTerms true
set_option pp.maxSteps 100000
set_option maxRecDepth 100000
set_option maxHeartbeats 4000000
namespace K50
open PySem PySem.Spec PyProof.Rows L2 Rb
def topS (i : Nat) : Stmt := PySem.Challenge.pw_roomslaid_k50_whole_distances.main.body.getD i (.Pass ⟨0, 0, 0, 0⟩)
abbrev s_wall : Stmt := topS 0
abbrev s_NoLine_init : Stmt := inClass (topS 3) 0
abbrev s_NoKeep_init : Stmt := inClass (topS 4) 0
abbrev s_is_whole : Stmt := topS 6
abbrev s_is_within : Stmt := topS 7
abbrev s_need_line : Stmt := topS 10
abbrev s_need_lines : Stmt := topS 11
abbrev s_need_bound : Stmt := topS 12
abbrev s_Kept_init : Stmt := inClass (topS 13) 0
abbrev s_Kept_touch : Stmt := inClass (topS 13) 1
abbrev s_Kept_lines_kept : Stmt := inClass (topS 13) 2
abbrev s_distances : Stmt := topS 14
abbrev s_missed : Stmt := topS 15
abbrev s_counts : Stmt := topS 16
abbrev s_law_drawn : Stmt := topS 18
abbrev s_law_whole : Stmt := topS 19
abbrev s_law_lines : Stmt := topS 20
abbrev s_law_far : Stmt := topS 21
abbrev s_law_gone_through : Stmt := topS 22
abbrev s_law_counted : Stmt := topS 23
abbrev s_law : Stmt := topS 24
theorem sc_wall : FnScope ["k"] ["k"] (defScope s_wall) := ⟨rfl, rfl, rfl, by decide +kernel, rfl, by decide +kernel, by decide +kernel⟩
theorem sc_NoLine_init : FnScope ["self", "found"] ["self", "found"] (defScope s_NoLine_init) := ⟨rfl, rfl, rfl, by decide +kernel, rfl, by decide +kernel, by decide +kernel⟩
theorem sc_NoKeep_init : FnScope ["self", "found"] ["self", "found"] (defScope s_NoKeep_init) := ⟨rfl, rfl, rfl, by decide +kernel, rfl, by decide +kernel, by decide +kernel⟩
theorem sc_is_whole : FnScope ["thing"] ["thing"] (defScope s_is_whole) := ⟨rfl, rfl, rfl, by decide +kernel, rfl, by decide +kernel, by decide +kernel⟩
theorem sc_is_within : FnScope ["thing", "low", "high"] ["thing", "low", "high"] (defScope s_is_within) := ⟨rfl, rfl, rfl, by decide +kernel, rfl, by decide +kernel, by decide +kernel⟩
theorem sc_need_line : FnScope ["line"] ["line"] (defScope s_need_line) := ⟨rfl, rfl, rfl, by decide +kernel, rfl, by decide +kernel, by decide +kernel⟩
theorem sc_need_lines : FnScope ["lines", "line"] ["lines"] (defScope s_need_lines) := ⟨rfl, rfl, rfl, by decide +kernel, rfl, by decide +kernel, by decide +kernel⟩
theorem sc_need_bound : FnScope ["most"] ["most"] (defScope s_need_bound) := ⟨rfl, rfl, rfl, by decide +kernel, rfl, by decide +kernel, by decide +kernel⟩
theorem sc_Kept_init : FnScope ["self", "most"] ["self", "most"] (defScope s_Kept_init) := ⟨rfl, rfl, rfl, by decide +kernel, rfl, by decide +kernel, by decide +kernel⟩
theorem sc_Kept_touch : FnScope ["self", "line", "out", "fetched"] ["self", "line"] (defScope s_Kept_touch) := ⟨rfl, rfl, rfl, by decide +kernel, rfl, by decide +kernel, by decide +kernel⟩
theorem sc_Kept_lines_kept : FnScope ["self"] ["self"] (defScope s_Kept_lines_kept) := ⟨rfl, rfl, rfl, by decide +kernel, rfl, by decide +kernel, by decide +kernel⟩
theorem sc_distances : FnScope ["lines", "had", "found", "line"] ["lines"] (defScope s_distances) := ⟨rfl, rfl, rfl, by decide +kernel, rfl, by decide +kernel, by decide +kernel⟩
theorem sc_missed : FnScope ["found", "bound", "far"] ["found", "bound"] (defScope s_missed) := ⟨rfl, rfl, rfl, by decide +kernel, rfl, by decide +kernel, by decide +kernel⟩
theorem sc_counts : FnScope ["lines", "most", "found", "bound"] ["lines", "most"] (defScope s_counts) := ⟨rfl, rfl, rfl, by decide +kernel, rfl, by decide +kernel, by decide +kernel⟩
theorem sc_law_drawn : FnScope ["_law_cell", "_law_sizes", "_law_found", "_law_many", "_law_one", "_law_other"] ["_law_cell", "_law_sizes"] (defScope s_law_drawn) := ⟨rfl, rfl, rfl, by decide +kernel, rfl, by decide +kernel, by decide +kernel⟩
theorem sc_law_whole : FnScope ["_law_found"] ["_law_found"] (defScope s_law_whole) := ⟨rfl, rfl, rfl, by decide +kernel, rfl, by decide +kernel, by decide +kernel⟩
theorem sc_law_lines : FnScope ["_law_script", "_law_found", "_law_cell", "_law_draws", "_law_k"] ["_law_script"] (defScope s_law_lines) := ⟨rfl, rfl, rfl, by decide +kernel, rfl, by decide +kernel, by decide +kernel⟩
theorem sc_law_far : FnScope ["_law_lines_here", "_law_k", "_law_at"] ["_law_lines_here", "_law_k"] (defScope s_law_far) := ⟨rfl, rfl, rfl, by decide +kernel, rfl, by decide +kernel, by decide +kernel⟩
theorem sc_law_gone_through : FnScope ["_law_lines_here", "_law_most", "_law_due", "_law_store", "_law_many", "_law_k", "_law_fetched"] ["_law_lines_here", "_law_most", "_law_due"] (defScope s_law_gone_through) := ⟨rfl, rfl, rfl, by decide +kernel, rfl, by decide +kernel, by decide +kernel⟩
theorem sc_law_counted : FnScope ["_law_lines_here", "_law_most", "_law_due", "_law_told", "_law_k", "_law_many", "_law_far_here", "_law_bound"] ["_law_lines_here", "_law_most", "_law_due", "_law_told"] (defScope s_law_counted) := ⟨rfl, rfl, rfl, by decide +kernel, rfl, by decide +kernel, by decide +kernel⟩
theorem sc_law : FnScope ["_law_script", "_law_lines_here", "_law_most", "_law_due", "_law_k", "_law_handed", "_law_told", "_law_far_here", "_law_found"] ["_law_script"] (defScope s_law) := ⟨rfl, rfl, rfl, by decide +kernel, rfl, by decide +kernel, by decide +kernel⟩
local macro_rules | `(tactic| walk_at "rd") => `(tactic| simp only [L2.start, cxOf, tSeq, tAsg, tIfS, tTest, tB, tOp, tUn, tVar, tC, tCB, tCons, tNil, tRet, tRetN, tNext, tDrop, tBM, tBM0, tLst_n, tTup_n, tAnd, tOr, tNot, tAndV, tOrV, tNotV, tIf, tChain, tCall, gName, gTup, gCons, gNil, gUnl, gSub, rI, rI0, rU, rIxL, rIxT, rSlL_n, tSl, tPart, tNoPart, rCatR, rAppend_n, rExtend_n, rPop_n, rClear_n, rSetL_n, rInsert, rRemI_n, tMake_n, sFld_n, tFld, tMeth, rIn, tFor_n, tLc_n, iRngL1, iRngL2, iList, iTup, iRev, rDivmod, rListOf, rTupOf, rLenSeq, rMin2, rMax2, rAll, rAny, rIsi, tNever, tYes, wipe, tAug, ipI, rEq, rNe, tIsN, tNotN, rIndex, rRep_n, rInt1, tLenSetS, scal_ii, scal_bb, scal_ss, scal_nn, scal_ni, scal_in, scal_ns, scal_sn, scal_is, scal_si,
  List.map_cons, List.map_nil, List.length_cons, List.length_nil, List.replicate, List.nil_append, List.cons_append, List.append_nil, List.getElem?_cons_zero, List.getElem?_cons_succ, List.set_cons_zero, List.set_cons_succ, List.set_nil, Nat.reduceAdd, Nat.reduceSub,
  Option.some.injEq, V.int.injEq, V.ref.injEq, V.bl.injEq, V.str.injEq, V.ty.injEq, List.cons.injEq, and_assoc, and_true, true_and, exists_eq_left, exists_eq_left', exists_and_left, exists_and_right, exists_eq, exists_eq', exists_eq_right, exists_eq_right', if_true, if_false, Bool.false_eq_true, Bool.not_true, Bool.not_false, if_pos, Int.toNat_natCast, decide_eq_true_eq, Bool.not_eq_true', decide_eq_false_iff_not, reduceCtorEq, false_and, and_false, exists_false, exists_const])
local macro_rules | `(tactic| walk_at "ex") => `(tactic| repeat' (first | assumption | (with_reducible refine Exists.intro _ ?_) | (with_reducible refine And.intro ?_ ?_) | rfl))

/-! ### the law's draws -/
def Drawn : List Int → List Int → Prop := Paired fun m v => 0 ≤ v ∧ v < m
theorem Drawn.snoc {m v : Int} : ∀ {ms vs : List Int}, Drawn ms vs → 0 ≤ v ∧ v < m → Drawn (ms ++ [m]) (vs ++ [v])
  | _, _, .nil, h => .cons h .nil
  | _, _, .cons r t, h => .cons r (Drawn.snoc t h)
theorem Drawn.len {ms vs : List Int} (d : Drawn ms vs) : ms.length = vs.length := Paired.length d
def spDrawn (K : PySem.W.Frag) : Sp := fun vs H Q _ => ∃ (z : Int) (b : Addr) (ms : List Int), vs = [.int z, .ref b] ∧ SqL K H b (ms.map V.int) ∧ (∀ m ∈ ms, 0 < m ∧ m < 2 ^ 200) ∧ ms.length ≤ 100 ∧
  ∀ p H1 ws, H p = none → Same H H1 → H1 p = some (.lst (ws.map V.int)) → Drawn ms ws → Q (.ref p) H1
section
variable {P : Program} {w : World} {K : PySem.W.Frag} {mg : Str → Option Value} {base : Heap}
theorem ok_drawn {f : Addr} {fd : FuncData} (F : Fun K "_law_drawn" "_law_drawn" s_law_drawn f fd) : FnOk P w K mg base CX0 1 f fd ["_law_cell", "_law_sizes"] (spDrawn K) := by
  refine F.ok sc_law_drawn (fun vs H Q E h => ?_) (fun cdv A outer s H vs Q E hr h => ?_)
  · obtain ⟨z, b, ms, rfl, _⟩ := h
    rfl
  · obtain ⟨z, b, ms, rfl, hS, hm, hl, q⟩ := h
    refine ⟨_, (pss_cons (ps_set (i := 2) sc_law_drawn.nd rfl (by first | exact Or.inl rfl | exact Or.inr rfl) (pe_lst pa_nil))
      (pss_cons (ps_if (pt_cmpR op_ge (pv 0) (pe_op op_pow pe_int pe_int) (nomark _)) (pss_cons (ps_for PassesOwn.never rfl (pi_listK (pv 1) (K := K)) (pg_name (i := 3) sc_law_drawn.nd rfl (by first | exact Or.inl rfl | exact Or.inr rfl)) (pss_cons (ps_expr (pe_bmK (K := K) PySem.F.plainAttrs_list PySem.F.slot_list_append PySem.F.type_list_append mt_append (pv 2) (pa_cons (pe_op op_modN (pv 0) (pv 3)) pa_nil)))
      (pss_one (ps_set (i := 0) sc_law_drawn.nd rfl (by first | exact Or.inl rfl | exact Or.inr rfl) (pe_op op_fdivW (pv 0) (pv 3))))))
      (pss_one (ps_ret (pv 2)))) pss_nil)
      (pss_cons (ps_set (i := 4) sc_law_drawn.nd rfl (by first | exact Or.inl rfl | exact Or.inr rfl) (pe_op op_modN (pe_op op_add (pe_op op_mul (pv 0) pe_int) pe_int) pe_int))
      (pss_cons (ps_set (i := 5) sc_law_drawn.nd rfl (by first | exact Or.inl rfl | exact Or.inr rfl) (pe_op op_modN (pe_op op_add (pe_op op_mul (pv 0) pe_int) pe_int) pe_int))
      (pss_cons (ps_set (i := 4) sc_law_drawn.nd rfl (by first | exact Or.inl rfl | exact Or.inr rfl) (pe_op op_modN (pe_op op_add (pe_op op_add (pe_op op_mulX (pv 4) (pv 4)) (pe_op op_mul pe_int (pv 4))) pe_int) pe_int))
      (pss_cons (ps_for PassesOwn.never rfl (pi_listK (pv 1) (K := K)) (pg_name (i := 3) sc_law_drawn.nd rfl (by first | exact Or.inl rfl | exact Or.inr rfl)) (pss_cons (ps_set (i := 4) sc_law_drawn.nd rfl (by first | exact Or.inl rfl | exact Or.inr rfl) (pe_op op_modN (pe_op op_add (pe_op op_add (pe_op op_mulX (pv 4) (pv 4)) (pe_op op_mul pe_int (pv 4))) pe_int) pe_int))
      (pss_cons (ps_set (i := 5) sc_law_drawn.nd rfl (by first | exact Or.inl rfl | exact Or.inr rfl) (pe_op op_modN (pe_op op_add (pe_op op_add (pe_op op_mul (pv 5) pe_int) (pe_op op_mul pe_int (pe_op op_modN (pv 4) pe_int))) pe_int) pe_int))
      (pss_one (ps_expr (pe_bmK (K := K) PySem.F.plainAttrs_list PySem.F.slot_list_append PySem.F.type_list_append mt_append (pv 2) (pa_cons (pe_op op_modN (pe_op op_add (pe_op op_mul (pv 4) pe_int) (pv 5)) (pv 3)) pa_nil)))))))
      (pss_one (ps_ret (pv 2))))))))), ?_⟩
    walk_at "rd"
    refine ⟨by decide, New.intro fun p H1 np s1 h1 => ⟨⟨by decide, by decide, by decide⟩, ite2 (fun c => ?_) (fun c => ?_)⟩⟩
    · refine ⟨⟨_, s1.seq hS⟩, Loop.list (xs := ms.map V.int) (fun i σ H2 => ∃ y x1 x2 ws, σ = [some (.int y), some (.ref b), some (.ref p), x1, x2, none] ∧ Same H H2 ∧ H2 p = some (.lst (ws.map V.int)) ∧ Drawn (ms.take i) ws) ⟨z, none, none, [], rfl, s1, h1, .nil⟩ ?_ ?_ ?_⟩
      · rintro i σ H2 _ ⟨y, x1, x2, ws, rfl, s2, _⟩
        exact s2.seq hS
      · rintro i x σ H2 hx ⟨y, x1, x2, ws, rfl, s2, h2, dr⟩
        obtain ⟨m, hmi, rfl⟩ := int_at hx
        obtain ⟨m0, m1⟩ := hm m (List.mem_of_getElem? hmi)
        have dl := dr.len
        walk_at "rd"
        refine ⟨tyv_list (seq_of h2), by omega, _, h2, small1000 (by rw [List.length_map, ← dl, List.length_take]; omega), Upd.intro fun H3 o3 h3 => ⟨wide_div (b := 200) m0 (by omega) (by decide) (by decide), Same.off s2 np o3, ws ++ [y.fmod m], ?_, ?_⟩⟩
        · rw [h3, List.map_append]
          rfl
        · rw [take_snoc hmi]
          exact dr.snoc ⟨Int.fmod_nonneg_of_pos _ m0, Int.fmod_lt_of_pos _ m0⟩
      · rintro σ H2 ⟨y, x1, x2, ws, rfl, s2, h2, dr⟩
        walk_at "rd"
        rw [List.length_map, List.take_length] at dr
        exact q p H2 ws np s2 h2 dr
    · refine ⟨.inr ⟨by decide, by decide⟩, by decide, .inr ⟨by decide, by decide⟩, by decide, ?_⟩
      have p1 := Int.fmod_nonneg_of_pos (z * 48271 + 11) (show (0 : Int) < 2147483647 by decide)
      have p2 := Int.fmod_lt_of_pos (z * 48271 + 11) (show (0 : Int) < 2147483647 by decide)
      refine ⟨mulx_ok (a := 40) (b := 40) (by omega) (by omega) (by decide), .inl ⟨by decide, by decide⟩, by decide, ⟨_, s1.seq hS⟩, ?_⟩
      refine Loop.list (xs := ms.map V.int) (fun i σ H2 => ∃ x1 u v ws, σ = [some (.int z), some (.ref b), some (.ref p), x1, some (.int u), some (.int v)] ∧ (0 ≤ u ∧ u < 2147483647) ∧ Same H H2 ∧ H2 p = some (.lst (ws.map V.int)) ∧ Drawn (ms.take i) ws)
        ⟨none, _, _, [], rfl, ⟨Int.fmod_nonneg_of_pos _ (by decide), Int.fmod_lt_of_pos _ (by decide)⟩, s1, h1, .nil⟩ ?_ ?_ ?_
      · rintro i σ H2 _ ⟨x1, u, v, ws, rfl, _, s2, _⟩
        exact s2.seq hS
      · rintro i x σ H2 hx ⟨x1, u, v, ws, rfl, ⟨u0, u1⟩, s2, h2, dr⟩
        obtain ⟨m, hmi, rfl⟩ := int_at hx
        obtain ⟨m0, m1⟩ := hm m (List.mem_of_getElem? hmi)
        have dl := dr.len
        walk_at "rd"
        refine ⟨mulx_ok (a := 40) (b := 40) (by omega) (by omega) (by decide), .inl ⟨by decide, by decide⟩, by decide, .inr ⟨by decide, by decide⟩, by decide, .inl ⟨by decide, by decide⟩, by decide, tyv_list (seq_of h2), .inr ⟨by decide, by decide⟩, by omega, _, h2,
          small1000 (by rw [List.length_map, ← dl, List.length_take]; omega), Upd.intro fun H3 o3 h3 => ⟨Int.fmod_nonneg_of_pos _ (by decide), Int.fmod_lt_of_pos _ (by decide), Same.off s2 np o3, ?_⟩⟩
        have fin : ∀ y : Int, 0 ≤ y → y < m → H3 p = some (.lst (ws.map V.int ++ [.int y])) → ∃ ws' : List Int, H3 p = some (.lst (ws'.map V.int)) ∧ Drawn (ms.take (i + 1)) ws' := fun y y0 y1 e =>
          ⟨ws ++ [y], by rw [e, List.map_append]; rfl, by rw [take_snoc hmi]; exact dr.snoc ⟨y0, y1⟩⟩
        exact fin _ (Int.fmod_nonneg_of_pos _ m0) (Int.fmod_lt_of_pos _ m0) h3
      · rintro σ H2 ⟨x1, u, v, ws, rfl, _, s2, h2, dr⟩
        walk_at "rd"
        rw [List.length_map, List.take_length] at dr
        exact q p H2 ws np s2 h2 dr
end

/-! ### words.py -/
def isIn : V → Int → Int → Bool
  | .int i, lo, hi => decide (lo ≤ i) && decide (i ≤ hi)
  | _, _, _ => false
def spIsWhole (K : PySem.W.Frag) : Sp := fun vs H Q _ => ∃ (x : V) (T : String), vs = [x] ∧ Thg K H x T ∧ Q (.bl (isWh x)) H
def spIsWithin (K : PySem.W.Frag) : Sp := fun vs H Q _ => ∃ (x : V) (T : String) (lo hi : Int), vs = [x, .int lo, .int hi] ∧ Thg K H x T ∧ Q (.bl (isIn x lo hi)) H
section
variable {P : Program} {w : World} {K : PySem.W.Frag} {mg : Str → Option Value} {base : Heap}
theorem ok_isWhole {f : Addr} {fd : FuncData} (F : Fun K "is_whole" "is_whole" s_is_whole f fd) (z_isinstance : mg "isinstance" = none) (z_int : mg "int" = none) (z_bool : mg "bool" = none) : FnOk P w K mg base CX0 1 f fd ["thing"] (spIsWhole K) := by
  refine F.ok sc_is_whole (fun vs H Q E h => ?_) (fun cdv A outer s H vs Q E hr h => ?_)
  · obtain ⟨x, T, rfl, _⟩ := h
    rfl
  · obtain ⟨x, T, rfl, t, q⟩ := h
    refine ⟨_, (pss_one (ps_ret (pe_and (pe_callB (call_isiK' (K := K)) (by rfl) z_isinstance (by decide +kernel) (pa_cons (pv 0) (pa_cons (pe_bltn (v := V.ty "int") (u := Value.type "int") (by rfl) z_int (by decide +kernel) rfl) pa_nil))) (pe_one (pe_not (pe_callB (call_isiK' (K := K)) (by rfl) z_isinstance (by decide +kernel) (pa_cons (pv 0) (pa_cons (pe_bltn (v := V.ty "bool") (u := Value.type "bool") (by rfl) z_bool (by decide +kernel) rfl) pa_nil)))))))), ?_⟩
    walk_at "rd"
    have e := isWh_of t
    refine isiT t (by decide) (ite2 (fun c => isiT t (by decide) ?_) (fun c => ?_))
    · rw [c, Bool.true_and] at e
      rw [e]
      exact q
    · rw [Bool.eq_false_iff.mpr c, Bool.false_and] at e
      rw [e]
      exact q
theorem ok_isWithin {f : Addr} {fd : FuncData} (F : Fun K "is_within" "is_within" s_is_within f fd) (D_is_whole : Dn P w K mg base CX0 1 "is_whole" ["thing"] (spIsWhole K)) : FnOk P w K mg base CX0 2 f fd ["thing", "low", "high"] (spIsWithin K) := by
  refine F.ok sc_is_within (fun vs H Q E h => ?_) (fun cdv A outer s H vs Q E hr h => ?_)
  · obtain ⟨x, T, lo, hi, rfl, _⟩ := h
    rfl
  · obtain ⟨x, T, lo, hi, rfl, t, q⟩ := h
    refine ⟨_, (pss_one (ps_ret (pe_and (pe_cd D_is_whole (hr.mono (by decide)) (by rfl) pass0 (pa_cons (pv 0) pa_nil)) (pe_one (pe_chain op_le op_le (pv 1) (pv 0) (pv 2)))))), ?_⟩
    walk_at "rd"
    refine ⟨x, T, rfl, t, _, rfl, ?_⟩
    cases x with
    | int i =>
      have e : isIn (.int i) lo hi = (decide (lo ≤ i) && decide (i ≤ hi)) := rfl
      rw [e] at q
      refine iteT ⟨i, rfl, ite2 (fun c => ⟨i, rfl, ?_⟩) (fun c => ?_)⟩
      · rw [decide_eq_true c, Bool.true_and] at q
        exact q
      · rw [decide_eq_false c, Bool.false_and] at q
        exact q
    | _ => exact iteF q
end

/-! ### the mathematics: lines kept by last use -/
def dd : List Int → List Int
  | [] => []
  | x :: r => x :: (dd r).filter fun y => decide (y ≠ x)
theorem mem_dd {x : Int} : ∀ {ys : List Int}, x ∈ dd ys ↔ x ∈ ys
  | [] => Iff.rfl
  | y :: r => by
    show x ∈ y :: (dd r).filter _ ↔ _
    rw [List.mem_cons, List.mem_cons, List.mem_filter, mem_dd (ys := r), decide_eq_true_eq]
    by_cases h : x = y
    · simp [h]
    · simp [h]
theorem nd_dd : ∀ ys : List Int, (dd ys).Nodup
  | [] => List.nodup_nil
  | y :: r => by
    show (y :: (dd r).filter _).Nodup
    rw [List.nodup_cons]
    refine ⟨fun h => ?_, (nd_dd r).filter _⟩
    rw [List.mem_filter, decide_eq_true_eq] at h
    exact h.2 rfl
theorem dd_snoc (y : Int) : ∀ ys : List Int, dd (ys ++ [y]) = if y ∈ ys then dd ys else dd ys ++ [y]
  | [] => rfl
  | x :: r => by
    show x :: (dd (r ++ [y])).filter _ = _
    rw [dd_snoc y r]
    by_cases h : y ∈ r
    · rw [if_pos h, if_pos (List.mem_cons_of_mem _ h)]
      rfl
    · rw [if_neg h, List.filter_append]
      by_cases e : y = x
      · subst e
        rw [if_pos List.mem_cons_self]
        simp [dd]
      · rw [if_neg (by simp [h, e])]
        simp [dd, e]
theorem dd_pre (ys : List Int) : ∀ zs : List Int, ∃ W, dd (ys ++ zs) = dd ys ++ W := fun zs => by
  refine snocI (P := fun zs => ∃ W, dd (ys ++ zs) = dd ys ++ W) ⟨[], by simp⟩ (fun zs z ih => ?_) zs
  obtain ⟨W, e⟩ := ih
  rw [← List.append_assoc, dd_snoc, e]
  split
  · exact ⟨W, rfl⟩
  · exact ⟨W ++ [z], by rw [List.append_assoc]⟩
def touchL (B : Nat) (L : List Int) (n : Int) : List Int := n :: (if n ∈ L then L.erase n else if L.length = B then L.dropLast else L)
def outL (B : Nat) (L : List Int) (n : Int) : V := if n ∈ L then .non else if L.length = B then (match L.getLast? with | some z => .int z | none => .non) else .non
def rowL (B : Nat) (L : List Int) (n : Int) : List V := [.int n, .bl (!decide (n ∈ L)), outL B L n]
theorem filter_out {n : Int} {L : List Int} (h : n ∉ L) : L.filter (fun y => decide (y ≠ n)) = L := List.filter_eq_self.mpr fun y hy => decide_eq_true fun e => h (e ▸ hy)
theorem erase_take {n : Int} : ∀ {D : List Int} {B : Nat}, D.Nodup → n ∈ D.take B → (D.take B).erase n = (D.filter fun y => decide (y ≠ n)).take (B - 1)
  | [], B, _, h => by simp at h
  | x :: r, 0, _, h => by simp at h
  | x :: r, b + 1, nd, h => by
    have nx := (List.nodup_cons.mp nd).1
    by_cases e : x = n
    · subst e
      show ((x :: r.take b).erase x) = _
      rw [List.erase_cons_head, List.filter_cons_of_neg (by simp), filter_out nx]
      rfl
    · have h' : n ∈ r.take b := by
        rw [List.take_succ_cons, List.mem_cons] at h
        exact h.resolve_left fun z => e z.symm
      have ih := erase_take (List.nodup_cons.mp nd).2 h'
      rw [List.take_succ_cons, List.erase_cons_tail (by simpa using e), ih, List.filter_cons_of_pos (by simpa using e)]
      cases b with
      | zero => simp at h'
      | succ b => rfl
theorem touch_dd {B : Nat} (hB : 1 ≤ B) (ys : List Int) (n : Int) : touchL B ((dd ys).take B) n = (dd (n :: ys)).take B := by
  obtain ⟨b, rfl⟩ : ∃ b, B = b + 1 := ⟨B - 1, by omega⟩
  show n :: _ = (n :: (dd ys).filter _).take (b + 1)
  rw [List.take_succ_cons]
  congr 1
  by_cases h : n ∈ (dd ys).take (b + 1)
  · rw [if_pos h, erase_take (nd_dd ys) h]
    rfl
  · rw [if_neg h]
    have key : ((dd ys).filter fun y => decide (y ≠ n)).take b = (dd ys).take b := by
      conv => lhs; rw [← List.take_append_drop (b + 1) (dd ys)]
      rw [List.filter_append, filter_out h, List.take_append, List.take_take]
      by_cases hl : (dd ys).length ≤ b
      · have e1 : (dd ys).drop (b + 1) = [] := List.drop_eq_nil_of_le (by omega)
        rw [e1]
        simp
      · have e2 : b - ((dd ys).take (b + 1)).length = 0 := by
          rw [List.length_take]
          omega
        rw [e2, List.take_zero, List.append_nil, Nat.min_eq_left (by omega)]
    rw [key]
    by_cases hl : ((dd ys).take (b + 1)).length = b + 1
    · rw [if_pos hl, List.dropLast_eq_take, hl, List.take_take]
      congr 1
      omega
    · rw [if_neg hl]
      rw [List.length_take] at hl
      rw [List.take_of_length_le (by omega), List.take_of_length_le (by omega)]
/-- what is kept, and the rows, behind some touches -/
def stepK (B : Nat) (s : List Int × List (List V)) (n : Int) : List Int × List (List V) := (touchL B s.1 n, s.2 ++ [rowL B s.1 n])
def runK (B : Nat) (xs : List Int) : List Int × List (List V) := xs.foldl (stepK B) ([], [])
theorem runK_snoc (B : Nat) (xs : List Int) (n : Int) : runK B (xs ++ [n]) = stepK B (runK B xs) n := by
  unfold runK
  rw [List.foldl_append]
  rfl
def lastL (B : Nat) (xs : List Int) : List Int := (dd xs.reverse).take B
theorem runK_last {B : Nat} (hB : 1 ≤ B) (xs : List Int) : (runK B xs).1 = lastL B xs := by
  refine snocI (P := fun xs => (runK B xs).1 = lastL B xs) (by simp [runK, lastL, dd]) (fun xs n ih => ?_) xs
  rw [runK_snoc]
  show touchL B (runK B xs).1 n = _
  rw [ih]
  unfold lastL
  rw [touch_dd hB, List.reverse_append]
  rfl
theorem runK_rows_len (B : Nat) (xs : List Int) : (runK B xs).2.length = xs.length := by
  refine snocI (P := fun xs => (runK B xs).2.length = xs.length) rfl (fun xs n ih => ?_) xs
  rw [runK_snoc]
  show ((runK B xs).2 ++ [_]).length = _
  rw [List.length_append, List.length_append, ih]
  rfl
theorem lastL_len (B : Nat) (xs : List Int) : (lastL B xs).length ≤ B := by
  unfold lastL
  rw [List.length_take]
  exact Nat.min_le_left _ _

/-! ### kept.py -/
def KeptAt (C : Addr) (H : Hp) (p d : Addr) (B : Nat) (L : List Int) : Prop := (∃ dx, H p = some (.ins C dx [("bound", .int (B : Int)), ("had", .ref d)])) ∧ H d = some (.lst (L.map V.int))
theorem KeptAt.same {C : Addr} {H H' : Hp} {p d : Addr} {B : Nat} {L : List Int} (k : KeptAt C H p d B L) (s : Same H H') : KeptAt C H' p d B L := let ⟨⟨dx, h⟩, g⟩ := k; ⟨⟨dx, s _ _ h⟩, s _ _ g⟩
theorem nbh : (("bound" : Str) == "had") = false := by decide +kernel
theorem nhb : (("had" : Str) == "bound") = false := by decide +kernel
theorem nbh' : ¬ (("bound" : Str) = "had") := by decide +kernel
theorem nf_bound {x y : V} : List.lookup (Str.ofString "bound") ([(Str.ofString "bound", x), (Str.ofString "had", y)] : List (Str × V)) = some x := lk0
theorem nf_had {x y : V} : List.lookup (Str.ofString "had") ([(Str.ofString "bound", x), (Str.ofString "had", y)] : List (Str × V)) = some y := lk1 nhb lk0
theorem nf_touch {x y : V} : List.lookup (Str.ofString "touch") ([(Str.ofString "bound", x), (Str.ofString "had", y)] : List (Str × V)) = none := lk1 (by decide +kernel) (lk1 (by decide +kernel) rfl)
theorem nf_kept {x y : V} : List.lookup (Str.ofString "lines_kept") ([(Str.ofString "bound", x), (Str.ofString "had", y)] : List (Str × V)) = none := lk1 (by decide +kernel) (lk1 (by decide +kernel) rfl)
theorem nf_put {x y : V} : putF "had" y [("bound", x)] = ([("bound", x), ("had", y)] : List (Str × V)) := putF1 nbh'
def spNeedLine : Sp := fun vs H Q _ => ∃ (n : Int), vs = [.int n] ∧ 0 ≤ n ∧ Q .non H
def spNeedLines (K : PySem.W.Frag) : Sp := fun vs H Q _ => ∃ (a : Addr) (ns : List Int), vs = [.ref a] ∧ SqL K H a (ns.map V.int) ∧ (∀ n ∈ ns, 0 ≤ n) ∧ Q .non H
def spNeedBound : Sp := fun vs H Q _ => ∃ (B : Nat), vs = [.int (B : Int)] ∧ 1 ≤ B ∧ B ≤ 32 ∧ Q .non H
def spKInit (C : Addr) : Sp := fun vs H Q _ => ∃ (p dx : Addr) (B : Nat), vs = [.ref p, .int (B : Int)] ∧ H p = some (.ins C dx []) ∧ 1 ≤ B ∧ B ≤ 32 ∧ ∀ d H1, Off p H H1 → H d = none → KeptAt C H1 p d B [] → Q .non H1
def spTouch (C : Addr) : Sp := fun vs H Q _ => ∃ (p d : Addr) (B : Nat) (L : List Int) (n : Int), vs = [.ref p, .int n] ∧ KeptAt C H p d B L ∧ 0 ≤ n ∧ L.length ≤ B ∧ B ≤ 32 ∧ 1 ≤ B ∧
  ∀ t H1, H t = none → Off d H H1 → KeptAt C H1 p d B (touchL B L n) → H1 t = some (.tup [.bl (!decide (n ∈ L)), outL B L n]) → Q (.ref t) H1
section
variable {P : Program} {w : World} {K : PySem.W.Frag} {mg : Str → Option Value} {base : Heap}
theorem ok_needLine {f : Addr} {fd : FuncData} (F : Fun K "need_line" "need_line" s_need_line f fd) (D_is_whole : Dn P w K mg base CX0 1 "is_whole" ["thing"] (spIsWhole K)) : FnOk P w K mg base CX0 2 f fd ["line"] spNeedLine := by
  refine F.ok sc_need_line (fun vs H Q E h => ?_) (fun cdv A outer s H vs Q E hr h => ?_)
  · obtain ⟨n, rfl, _⟩ := h
    rfl
  · obtain ⟨n, rfl, h0, q⟩ := h
    refine ⟨_, (pss_one (ps_if (PW.pt (pw_or (pt_not (pt_val (pe_cd D_is_whole (hr.mono (by decide)) (by rfl) pass0 (pa_cons (pv 0) pa_nil)))) (pw_or1 (pt_cmpR op_lt (pv 0) pe_int (nomark _))))) (pss_one ps_never) pss_nil)), ?_⟩
    walk_at "rd"
    exact ⟨_, _, rfl, thg_int, _, rfl, iteN (fun h => by cases h) (iteN (by omega) q)⟩
theorem ok_needLines {f : Addr} {fd : FuncData} (F : Fun K "need_lines" "need_lines" s_need_lines f fd) (D_need_line : Dn P w K mg base CX0 2 "need_line" ["line"] spNeedLine) : FnOk P w K mg base CX0 3 f fd ["lines"] (spNeedLines K) := by
  refine F.ok sc_need_lines (fun vs H Q E h => ?_) (fun cdv A outer s H vs Q E hr h => ?_)
  · obtain ⟨a, ns, rfl, _⟩ := h
    rfl
  · obtain ⟨a, ns, rfl, hS, h0, q⟩ := h
    refine ⟨_, (pss_one (ps_for PassesOwn.never rfl (pi_listK (pv 0) (K := K)) (pg_name (i := 1) sc_need_lines.nd rfl (by first | exact Or.inl rfl | exact Or.inr rfl)) (pss_one (ps_expr (pe_cd D_need_line (hr.mono (by decide)) (by rfl) pass0 (pa_cons (pv 1) pa_nil)))))), ?_⟩
    walk_at "rd"
    refine ⟨⟨_, hS⟩, Loop.list (xs := ns.map V.int) (fun i σ H1 => ∃ y, H1 = H ∧ σ = [some (.ref a), y]) ⟨none, rfl, rfl⟩ ?_ ?_ ?_⟩
    · rintro i σ H1 _ ⟨y, rfl, rfl⟩
      exact hS
    · rintro i x σ H1 hx ⟨y, rfl, rfl⟩
      obtain ⟨z, hz, rfl⟩ := int_at hx
      walk_at "rd"
      exact ⟨z, rfl, h0 z (List.mem_of_getElem? hz), rfl⟩
    · rintro σ H1 ⟨y, rfl, rfl⟩
      exact q
theorem ok_needBound {f : Addr} {fd : FuncData} (F : Fun K "need_bound" "need_bound" s_need_bound f fd) (c_MOST_KEPT : ∃ t, mg "MOST_KEPT" = some (.int 32 t)) (D_is_within : Dn P w K mg base CX0 2 "is_within" ["thing", "low", "high"] (spIsWithin K)) : FnOk P w K mg base CX0 3 f fd ["most"] spNeedBound := by
  refine F.ok sc_need_bound (fun vs H Q E h => ?_) (fun cdv A outer s H vs Q E hr h => ?_)
  · obtain ⟨n, rfl, _⟩ := h
    rfl
  · obtain ⟨B, rfl, h0, h1, q⟩ := h
    refine ⟨_, (pss_one (ps_if (pt_not (pt_val (pe_cd D_is_within (hr.mono (by decide)) (by rfl) pass0 (pa_cons (pv 0) (pa_cons pe_int (pa_cons (pe_gi (by rfl) c_MOST_KEPT) pa_nil)))))) (pss_one ps_never) pss_nil)), ?_⟩
    walk_at "rd"
    refine ⟨_, _, _, _, rfl, thg_int, _, rfl, iteN ?_ q⟩
    show ¬ (decide ((1 : Int) ≤ B) && decide ((B : Int) ≤ 32)) = false
    rw [decide_eq_true (by omega), decide_eq_true (by omega)]
    decide
theorem ok_kInit {f C_Kept : Addr} {fd : FuncData} (F : Fun K "__init__" "Kept.__init__" s_Kept_init f fd) (K_Kept : Cls K C_Kept) (A_Kept_bound : NoAttr K C_Kept "bound") (A_Kept_had : NoAttr K C_Kept "had") (D_need_bound : Dn P w K mg base CX0 3 "need_bound" ["most"] spNeedBound) : FnOk P w K mg base CX0 4 f fd ["self", "most"] (spKInit C_Kept) := by
  refine F.ok sc_Kept_init (fun vs H Q E h => ?_) (fun cdv A outer s H vs Q E hr h => ?_)
  · obtain ⟨p, dx, B, rfl, _⟩ := h
    rfl
  · obtain ⟨p, dx, B, rfl, hp, h0, h1, q⟩ := h
    refine ⟨_, (pss_cons (ps_expr (pe_cd D_need_bound (hr.mono (by decide)) (by rfl) pass0 (pa_cons (pv 1) pa_nil)))
      (pss_cons (ps_fldK (pv 0) (pv 1) rfl (K := K))
      (pss_one (ps_fldK (pv 0) (pe_lst pa_nil) rfl (K := K))))), ?_⟩
    walk_at "rd"
    refine ⟨B, rfl, h0, h1, _, _, _, hp, K_Kept, A_Kept_bound, by show 0 < 1000; decide, Upd.intro fun H1 o1 hp1 => ⟨by decide, New.intro fun d H2 nd s2 h2 => ?_⟩⟩
    refine ⟨_, _, _, s2 _ _ hp1, K_Kept, A_Kept_had, by show 1 < 1000; decide, Upd.intro fun H3 o3 hp3 => ?_⟩
    have e : putF "had" (.ref d) (putF "bound" (.int (B : Int)) []) = ([("bound", .int (B : Int)), ("had", .ref d)] : List (Str × V)) := nf_put
    rw [e] at hp3
    have ndp : d ≠ p := fun e => by
      subst e
      rw [hp1] at nd
      cases nd
    exact q d H3 (o1.trans ((Off.of s2).trans o3)) (o1.none hp nd ⟨_, hp1⟩) ⟨⟨_, hp3⟩, o3 _ _ ndp h2⟩
theorem ok_touch {f C_Kept : Addr} {fd : FuncData} (F : Fun K "touch" "Kept.touch" s_Kept_touch f fd) (z_len : mg "len" = none) (K_Kept : Cls K C_Kept) (A_Kept_bound : NoAttr K C_Kept "bound") (A_Kept_had : NoAttr K C_Kept "had") (D_need_line : Dn P w K mg base CX0 2 "need_line" ["line"] spNeedLine) : FnOk P w K mg base CX0 3 f fd ["self", "line"] (spTouch C_Kept) := by
  refine F.ok sc_Kept_touch (fun vs H Q E h => ?_) (fun cdv A outer s H vs Q E hr h => ?_)
  · obtain ⟨p, d, B, L, n, rfl, _⟩ := h
    rfl
  · obtain ⟨p, d, B, L, n, rfl, ⟨⟨dx, hp⟩, hd⟩, h0, hl, hB, hB1, q⟩ := h
    refine ⟨_, (pss_cons (ps_expr (pe_cd D_need_line (hr.mono (by decide)) (by rfl) pass0 (pa_cons (pv 1) pa_nil)))
      (pss_cons (ps_set (i := 2) sc_Kept_touch.nd rfl (by first | exact Or.inl rfl | exact Or.inr rfl) pe_non)
      (pss_cons (ps_set (i := 3) sc_Kept_touch.nd rfl (by first | exact Or.inl rfl | exact Or.inr rfl) (pe_cmpR (op_notIn_seqK (K := K)) (pv 1) (pe_fldK (pv 0) rfl (K := K)) (by rfl)))
      (pss_cons (ps_if (pt_not (pt_val (pv 3))) (pss_one (ps_expr (pe_bmK (K := K) PySem.F.plainAttrs_list PySem.F.slot_list_remove PySem.F.type_list_remove mt_remove (pe_fldK (pv 0) rfl (K := K)) (pa_cons (pv 1) pa_nil)))) (pss_one (ps_if (pt_cmpR op_eq (pe_callB (call_lenR (K := K)) (by rfl) z_len (by decide +kernel) (pa_cons (pe_fldK (pv 0) rfl (K := K)) pa_nil)) (pe_fldK (pv 0) rfl (K := K)) (nomark _)) (pss_one (ps_set (i := 2) sc_Kept_touch.nd rfl (by first | exact Or.inl rfl | exact Or.inr rfl) (pe_bm0K (K := K) PySem.F.plainAttrs_list PySem.F.slot_list_pop PySem.F.type_list_pop mt_pop (pe_fldK (pv 0) rfl (K := K))))) pss_nil)))
      (pss_cons (ps_expr (pe_bmK (K := K) PySem.F.plainAttrs_list PySem.F.slot_list_insert PySem.F.type_list_insert mt_insertR (pe_fldK (pv 0) rfl (K := K)) (pa_cons pe_int (pa_cons (pv 1) pa_nil))))
      (pss_one (ps_ret (pe_tup (pa_cons (pv 3) (pa_cons (pv 2) pa_nil)))))))))), ?_⟩
    walk_at "rd"
    have ndp : p ≠ d := ne_of hp hd (by intro z; cases z)
    -- had.insert(0, line); return (fetched, out)
    have tail : ∀ (H1 : Hp) (M : List Int) (b : Bool) (o : V), Off d H H1 → H1 d = some (.lst (M.map V.int)) → n :: M = touchL B L n → b = !decide (n ∈ L) → o = outL B L n → M.length ≤ 40 →
        ∃ x x_1 x_2, H1 p = some (HO.ins x x_1 x_2) ∧ Cls K x ∧ NoAttr K x "had" ∧ ∃ x, List.lookup (Str.ofString "had") x_2 = some x ∧ tyV K "list" x H1 ∧ ∃ l, x = V.ref l ∧ ∃ x, H1 l = some (HO.lst x) ∧ x.length < sizeLine ∧ (0 : Int) ≤ 0 ∧ (0 : Int) < 2 ^ 63 ∧
          Upd H1 l (HO.lst (List.take (Int.toNat 0) x ++ [V.int n] ++ List.drop (Int.toNat 0) x)) fun H2 => 2 ≤ sizeLine ∧ New H2 (HO.tup [V.bl b, o]) fun p H2 => Q (V.ref p) H2 := fun H1 M b o o1 h1 eM eb eo hM => by
      refine ⟨_, _, _, o1 _ _ ndp hp, K_Kept, A_Kept_had, _, nf_had, tyv_list (seq_of h1), d, rfl, _, h1, sz100l (by rw [List.length_map]; omega), by decide, by decide, Upd.intro fun H2 o2 h2 => ⟨by decide, New.intro fun t H3 nt s3 h3 => ?_⟩⟩
      have o12 : Off d H H2 := o1.trans o2
      have e2 : List.take (Int.toNat 0) (M.map V.int) ++ [V.int n] ++ List.drop (Int.toNat 0) (M.map V.int) = (n :: M).map V.int := rfl
      rw [e2, eM] at h2
      rw [eb, eo] at h3
      refine q t H3 (o12.none hd nt ⟨_, h2⟩) (o12.trans (Off.of s3)) ⟨⟨dx, s3 _ _ (o12 _ _ ndp hp)⟩, s3 _ _ h2⟩ h3
    refine ⟨n, rfl, h0, _, _, _, hp, K_Kept, A_Kept_had, _, nf_had, d, rfl, _, .inl (seq_of hd), rfl, flat_ints L, ?_⟩
    rw [inV_int]
    by_cases hm : n ∈ L
    · have hx := List.idxOf_lt_length_of_mem hm
      rw [decide_eq_true hm]
      refine iteP rfl ⟨_, _, _, hp, K_Kept, A_Kept_had, _, nf_had, tyv_list (seq_of hd), d, rfl, L, hd, L.idxOf n, ?_, ?_, Upd.intro fun H1 o1 h1 => ?_⟩
      · rw [List.getElem?_eq_getElem hx, List.getElem_idxOf]
      · intro m hmx e
        have := List.getElem?_eq_some_iff.mp e
        obtain ⟨h1, h2⟩ := this
        have h3 : L.idxOf n ≤ m := by
          have := List.not_of_lt_findIdx (p := (· == n)) (xs := L) (i := m) hmx
          simp [h2] at this
        omega
      · rw [← List.erase_eq_eraseIdx_of_idxOf rfl] at h1
        refine tail H1 (L.erase n) _ _ o1 h1 ?_ (by rw [decide_eq_true hm]) ?_ ?_
        · unfold touchL
          rw [if_pos hm]
        · unfold outL
          rw [if_pos hm]
        · have := List.length_erase_le (a := n) (l := L)
          omega
    · rw [decide_eq_false hm]
      refine iteN (by decide) ⟨_, _, _, hp, K_Kept, A_Kept_had, _, nf_had, d, rfl, _, .inl (seq_of hd), _, _, _, hp, K_Kept, A_Kept_bound, _, nf_bound, rfl, ite2 (fun e => ?_) (fun e => ?_)⟩
      · have eB : L.length = B := by
          have := V.int.inj e
          rw [List.length_map] at this
          omega
        have hz : L[L.length - 1]? = some L[L.length - 1] := List.getElem?_eq_getElem (by omega)
        have hz2 : (L.map V.int)[(L.map V.int).length - 1]? = some (.int L[L.length - 1]) := by
          rw [List.length_map]
          exact at_int hz
        refine ⟨_, _, _, hp, K_Kept, A_Kept_had, _, nf_had, tyv_list (seq_of hd), d, rfl, _, hd, _, hz2, Upd.intro fun H1 o1 h1 => ?_⟩
        rw [← List.map_dropLast] at h1
        refine tail H1 L.dropLast _ _ o1 h1 ?_ (by rw [decide_eq_false hm]) ?_ (by rw [List.length_dropLast]; omega)
        · unfold touchL
          rw [if_neg hm, if_pos eB]
        · unfold outL
          rw [if_neg hm, if_pos eB, List.getLast?_eq_getElem?, hz]
      · have ne : ¬ L.length = B := fun h => e (by rw [List.length_map, h])
        refine tail H L _ _ (Off.refl H) hd ?_ (by rw [decide_eq_false hm]) ?_ (by omega)
        · unfold touchL
          rw [if_neg hm, if_neg ne]
        · unfold outL
          rw [if_neg hm, if_neg ne]
end

section
variable {P : Program} {w : World} {K : PySem.W.Frag} {mg : Str → Option Value} {base : Heap}
def spLWhole (K : PySem.W.Frag) : Sp := fun vs H Q _ => ∃ (x : V) (T : String), vs = [x] ∧ Thg K H x T ∧ Q (.bl (isWh x)) H
theorem ok_lwhole {f : Addr} {fd : FuncData} (F : Fun K "_law_whole" "_law_whole" s_law_whole f fd) (z_isinstance : mg "isinstance" = none) (z_int : mg "int" = none) (z_bool : mg "bool" = none) : FnOk P w K mg base CX0 1 f fd ["_law_found"] (spLWhole K) := by
  refine F.ok sc_law_whole (fun vs H Q E h => ?_) (fun cdv A outer s H vs Q E hr h => ?_)
  · obtain ⟨x, T, rfl, _⟩ := h
    rfl
  · obtain ⟨x, T, rfl, t, q⟩ := h
    refine ⟨_, (pss_one (ps_ret (pe_and (pe_callB (call_isiK' (K := K)) (by rfl) z_isinstance (by decide +kernel) (pa_cons (pv 0) (pa_cons (pe_bltn (v := V.ty "int") (u := Value.type "int") (by rfl) z_int (by decide +kernel) rfl) pa_nil))) (pe_one (pe_not (pe_callB (call_isiK' (K := K)) (by rfl) z_isinstance (by decide +kernel) (pa_cons (pv 0) (pa_cons (pe_bltn (v := V.ty "bool") (u := Value.type "bool") (by rfl) z_bool (by decide +kernel) rfl) pa_nil)))))))), ?_⟩
    walk_at "rd"
    have e := isWh_of t
    refine isiT t (by decide) (ite2 (fun c => isiT t (by decide) ?_) (fun c => ?_))
    · rw [c, Bool.true_and] at e
      rw [e]
      exact q
    · rw [Bool.eq_false_iff.mpr c, Bool.false_and] at e
      rw [e]
      exact q
end

/-! ### the law's lines -/
theorem cutV_ints (ns : List Int) (lo hi : Option Int) : ∃ ms : List Int, cutV (ns.map V.int) lo hi = ms.map V.int ∧ (∀ m ∈ ms, m ∈ ns) ∧ ms.length ≤ ns.length := by
  unfold cutV
  refine ⟨(ns.drop _).take _, by rw [List.map_take, List.map_drop], fun m hm => List.mem_of_mem_drop (List.mem_of_mem_take hm), ?_⟩
  rw [List.length_take, List.length_drop]
  omega
def spLines (K : PySem.W.Frag) : Sp := fun vs H Q _ => ∃ (a : Addr) (ns : List Int), vs = [.ref a] ∧ SqL K H a (ns.map V.int) ∧ ns.length ≤ 63 ∧
  ∀ p H1 (xs : List Int), H p = none → Same H H1 → H1 p = some (.lst (xs.map V.int)) → (∀ x ∈ xs, (0 : Int) ≤ x) → xs.length ≤ 80 → Q (.ref p) H1
section
variable {P : Program} {w : World} {K : PySem.W.Frag} {mg : Str → Option Value} {base : Heap}
theorem ok_lines {f : Addr} {fd : FuncData} (F : Fun K "_law_lines" "_law_lines" s_law_lines f fd) (z_len : mg "len" = none) (z_range : mg "range" = none) (D_law_drawn : Dn P w K mg base CX0 1 "_law_drawn" ["_law_cell", "_law_sizes"] (spDrawn K)) : FnOk P w K mg base CX0 2 f fd ["_law_script"] (spLines K) := by
  refine F.ok sc_law_lines (fun vs H Q E h => ?_) (fun cdv A outer s H vs Q E hr h => ?_)
  · obtain ⟨a, ns, rfl, _⟩ := h
    rfl
  · obtain ⟨a, ns, rfl, hS, hl, q⟩ := h
    refine ⟨_, (pss_cons (ps_set (i := 1) sc_law_lines.nd rfl (by first | exact Or.inl rfl | exact Or.inr rfl) (pe_lst pa_nil))
      (pss_cons (ps_for PassesOwn.never rfl (pi_listK (pe_op (op_catS (K := K)) (pe_slice (sl_listK (K := K)) (pv 0) po_none (po_some pe_int)) (pe_lst (pa_cons (pe_callB (call_lenR (K := K)) (by rfl) z_len (by decide +kernel) (pa_cons (pv 0) pa_nil)) pa_nil))) (K := K)) (pg_name (i := 2) sc_law_lines.nd rfl (by first | exact Or.inl rfl | exact Or.inr rfl)) (pss_cons (ps_set (i := 3) sc_law_lines.nd rfl (by first | exact Or.inl rfl | exact Or.inr rfl) (pe_cd D_law_drawn (hr.mono (by decide)) (by rfl) pass0 (pa_cons (pv 2) (pa_cons (pe_lst (pa_cons pe_int (pa_cons pe_int (pa_cons pe_int (pa_cons pe_int (pa_cons (pe_op op_pow pe_int pe_int) pa_nil)))))) pa_nil))))
      (pss_one (ps_if (pt_cmpR op_lt (pe_ix (ix_listK (K := K)) (pv 3) pe_int (fun _ _ => rfl)) pe_int (nomark _)) (pss_one (ps_expr (pe_bmK (K := K) PySem.F.plainAttrs_list PySem.F.slot_list_append PySem.F.type_list_append mt_append (pv 1) (pa_cons (pe_ix (ix_listK (K := K)) (pv 3) pe_int (fun _ _ => rfl)) pa_nil)))) (pss_one (ps_if (pt_cmpR op_eq (pe_ix (ix_listK (K := K)) (pv 3) pe_int (fun _ _ => rfl)) pe_int (nomark _)) (pss_one (ps_expr (pe_bmK (K := K) PySem.F.plainAttrs_list PySem.F.slot_list_extend PySem.F.type_list_extend mt_extend (pv 1) (pa_cons (pe_lc (own := [("_law_k", 4)]) (g := gName 4) (tt := tYes) rfl sc_law_lines.nd (pi_rangeL1 (by rfl) z_range (pa_cons (pe_ix (ix_listK (K := K)) (pv 3) pe_int (fun _ _ => rfl)) pa_nil)) (blkOk_by (own := [("_law_k", 4)]) (N := ["_law_script", "_law_found", "_law_cell", "_law_draws", "_law_k"]) (sc := defScope s_law_lines) (by decide +kernel)) (fun _ _ _ _ _ => pg_name (i := 4) sc_law_lines.nd rfl (Or.inl rfl)) (fun _ _ _ _ _ => pts_nil) (fun _ _ _ _ _ => (pe_op op_add (pe_ix (ix_listK (K := K)) (pv 3) pe_int (fun _ _ => rfl)) (pv 4)))) pa_nil)))) (pss_one (ps_if (pt_cmpR op_eq (pe_ix (ix_listK (K := K)) (pv 3) pe_int (fun _ _ => rfl)) pe_int (nomark _)) (pss_one (ps_expr (pe_bmK (K := K) PySem.F.plainAttrs_list PySem.F.slot_list_extend PySem.F.type_list_extend mt_extend (pv 1) (pa_cons (pe_slice (sl_listK (K := K)) (pv 1) (po_some (pe_ix (ix_listK (K := K)) (pv 3) pe_int (fun _ _ => rfl))) (po_some (pe_op op_add (pe_ix (ix_listK (K := K)) (pv 3) pe_int (fun _ _ => rfl)) (pe_ix (ix_listK (K := K)) (pv 3) pe_int (fun _ _ => rfl))))) pa_nil)))) (pss_one (ps_if (pt_cmpR op_eq (pe_ix (ix_listK (K := K)) (pv 3) pe_int (fun _ _ => rfl)) pe_int (nomark _)) (pss_one (ps_expr (pe_bmK (K := K) PySem.F.plainAttrs_list PySem.F.slot_list_extend PySem.F.type_list_extend mt_extend (pv 1) (pa_cons (pe_lst (pa_cons (pe_op op_add (pe_ix (ix_listK (K := K)) (pv 3) pe_int (fun _ _ => rfl)) (pe_ix (ix_listK (K := K)) (pv 3) pe_int (fun _ _ => rfl))) (pa_cons (pe_ix (ix_listK (K := K)) (pv 3) pe_int (fun _ _ => rfl)) pa_nil))) pa_nil)))) (pss_one (ps_expr (pe_bmK (K := K) PySem.F.plainAttrs_list PySem.F.slot_list_extend PySem.F.type_list_extend mt_extend (pv 1) (pa_cons (pe_lc (own := [("_law_k", 4)]) (g := gName 4) (tt := tYes) rfl sc_law_lines.nd (pi_rangeL1 (by rfl) z_range (pa_cons (pe_ix (ix_listK (K := K)) (pv 3) pe_int (fun _ _ => rfl)) pa_nil)) (blkOk_by (own := [("_law_k", 4)]) (N := ["_law_script", "_law_found", "_law_cell", "_law_draws", "_law_k"]) (sc := defScope s_law_lines) (by decide +kernel)) (fun _ _ _ _ _ => pg_name (i := 4) sc_law_lines.nd rfl (Or.inl rfl)) (fun _ _ _ _ _ => pts_nil) (fun _ _ _ _ _ => (pv 4))) pa_nil))))))))))))))
      (pss_one (ps_ret (pe_slice (sl_listK (K := K)) (pv 1) po_none (po_some pe_int)))))), ?_⟩
    walk_at "rd"
    refine ⟨by decide, New.intro fun p H0 np s0 h0 => ⟨_, s0.seq hS, New.intro fun p1 H1 n1 s1 h1 => ⟨_, .inl ((s0.trans s1).seq hS), by decide, New.intro fun p2 H2 n2 s2 h2 => ⟨_, seq_of (s2 _ _ h1), _, seq_of h2, ?_, New.intro fun p3 H3 n3 s3 h3 => ?_⟩⟩⟩⟩
    · refine Nat.le_trans (Nat.add_le_add_right (cutV_length _ _ _) _) ?_
      rw [List.length_map]
      exact sz100 (by rw [List.length_singleton]; omega)
    rw [show (some 14 : Option Int) = some ((14 : Nat) : Int) from rfl, cut_to, ← List.map_take, List.length_map, show [V.int (ns.length : Int)] = [(ns.length : Int)].map V.int from rfl, ← List.map_append] at h3
    generalize hL : ns.take 14 ++ [(ns.length : Int)] = L at h3
    have hL15 : L.length ≤ 15 := by
      rw [← hL, List.length_append, List.length_take, List.length_singleton]
      omega
    clear hL
    have S03 : Same H0 H3 := s1.trans (s2.trans s3)
    refine ⟨⟨_, seq_of h3⟩, Loop.list (xs := L.map V.int) (fun i σ H' => ∃ (x1 x2 : Option V) (xs : List Int), σ = [some (.ref a), some (.ref p), x1, x2, none] ∧ Same H H' ∧ H' p3 = some (.lst (L.map V.int)) ∧ H' p = some (.lst (xs.map V.int)) ∧ (∀ x ∈ xs, (0 : Int) ≤ x) ∧ xs.length ≤ 50 * 2 ^ i)
      ⟨none, none, [], rfl, s0.trans S03, h3, S03 _ _ h0, fun x hx => (nomatch hx), Nat.zero_le _⟩ ?_ ?_ ?_⟩
    · rintro i σ H' _ ⟨x1, x2, xs, rfl, s', h3', _⟩
      exact seq_of h3'
    · rintro i x σ H' hx ⟨x1, x2, xs, rfl, s', h3', hp, h0', hlen⟩
      obtain ⟨z, hz, rfl⟩ := int_at hx
      have hi : i < L.length := (List.getElem?_eq_some_iff.mp hz).1
      walk_at "rd"
      refine ⟨⟨by decide, by decide, by decide⟩, by decide, New.intro fun b H4 nb s4 h4 => ⟨z, b, [6, 9, 12, 41, 10 ^ 29], rfl, seq_of h4, by decide, by decide, fun t H5 ws nt s5 h5 dr => ?_⟩⟩
      obtain ⟨w0, w1, w2, w3, w4, rfl, l0, l1, l2, l3, l4⟩ : ∃ w0 w1 w2 w3 w4 : Int, ws = [w0, w1, w2, w3, w4] ∧ (0 ≤ w0 ∧ w0 < 6) ∧ (0 ≤ w1 ∧ w1 < 9) ∧ (0 ≤ w2 ∧ w2 < 12) ∧ (0 ≤ w3 ∧ w3 < 41) ∧ (0 ≤ w4 ∧ w4 < 10 ^ 29) := by
        cases dr with | cons a0 dr => cases dr with | cons a1 dr => cases dr with | cons a2 dr => cases dr with | cons a3 dr => cases dr with | cons a4 dr =>
        cases dr
        exact ⟨_, _, _, _, _, rfl, a0, a1, a2, a3, a4⟩
      walk_at "rd"
      have T5 : SqL K H5 t [.int w0, .int w1, .int w2, .int w3, .int w4] := seq_of h5
      have np3 : p3 ≠ p := fun e => by
        subst e
        rw [s2 _ _ (s1 _ _ h0)] at n3
        cases n3
      have P5 : H5 p = some (.lst (xs.map V.int)) := s5 _ _ (s4 _ _ hp)
      have Q5 : H5 p3 = some (.lst (L.map V.int)) := s5 _ _ (s4 _ _ h3')
      have S5 : Same H H5 := s'.trans (s4.trans s5)
      have hpow : (2 : Nat) ^ i ≤ 2 ^ 15 := Nat.pow_le_pow_right (by decide) (by omega)
      have hone : 1 ≤ (2 : Nat) ^ i := Nat.one_le_two_pow
      have hpow2 : 50 * 2 ^ (i + 1) = 50 * 2 ^ i + 50 * 2 ^ i := by rw [Nat.pow_succ]; omega
      have end_ : ∀ (H6 H7 : Hp) (ys : List Int), Same H5 H6 → Off p H6 H7 → H7 p = some (.lst (xs.map V.int ++ ys.map V.int)) → (∀ y ∈ ys, (0 : Int) ≤ y) → ys.length ≤ 50 * 2 ^ i →
          Same H H7 ∧ H7 p3 = some (.lst (L.map V.int)) ∧ ∃ x : List Int, H7 p = some (.lst (x.map V.int)) ∧ (∀ y ∈ x, (0 : Int) ≤ y) ∧ x.length ≤ 50 * 2 ^ (i + 1) := fun H6 H7 ys s6 o7 h7 y0 yl => by
        refine ⟨Same.off (S5.trans s6) np o7, o7 _ _ np3 (s6 _ _ Q5), xs ++ ys, by rw [h7, List.map_append], fun y hy => (List.mem_append.mp hy).elim (h0' y) (y0 y), ?_⟩
        rw [List.length_append, hpow2]
        omega
      have ext : ∀ (H6 : Hp) (b : Addr) (ys : List Int), Same H5 H6 → H6 b = some (.lst (ys.map V.int)) → (∀ y ∈ ys, (0 : Int) ≤ y) → ys.length ≤ 50 * 2 ^ i →
          ∃ x, H6 p = some (.lst x) ∧ ∃ x5, H6 b = some (.lst x5) ∧ x.length + x5.length ≤ sizeLine ∧ Upd H6 p (.lst (x ++ x5)) fun H2 => Same H H2 ∧ H2 p3 = some (.lst (L.map V.int)) ∧ ∃ x : List Int, H2 p = some (.lst (x.map V.int)) ∧ (∀ y ∈ x, (0 : Int) ≤ y) ∧ x.length ≤ 50 * 2 ^ (i + 1) := fun H6 b ys s6 hb y0 yl =>
        ⟨_, s6 _ _ P5, _, hb, Nat.le_trans (show _ ≤ 4000000 by rw [List.length_map, List.length_map]; omega) (by decide), Upd.intro fun H7 o7 h7 => end_ H6 H7 ys s6 o7 h7 y0 yl⟩
      refine ⟨_, T5, _, rfl, _, rfl, ite2 (fun c0 => ?_) (fun c0 => ⟨_, T5, _, rfl, rfl, ite2 (fun c2 => ?_) (fun c2 => ⟨_, T5, _, rfl, rfl, ite2 (fun c3 => ?_) (fun c3 => ⟨_, T5, _, rfl, rfl, ite2 (fun c4 => ?_) (fun c4 => ?_)⟩)⟩)⟩)⟩
      · refine ⟨tyv_list (seq_of P5), _, T5, _, rfl, _, P5, Nat.lt_of_le_of_lt (show _ ≤ 4000000 by rw [List.length_map]; omega) (by decide), Upd.intro fun H7 o7 h7 => end_ H5 H7 [w1] (Same.refl H5) o7 h7 (fun y hy => by rw [List.mem_singleton.mp hy]; exact l1.1) (by show 1 ≤ _; omega)⟩
      · refine ⟨tyv_list (seq_of P5), _, T5, _, rfl, _, rfl, Cmp.pureR (fun k => .int (w1 + (k : Int))) (by omega) (fun _ => rfl) ?_ ?_⟩
        · intro j H6 R hj s6 hR
          walk_at "rd"
          refine ⟨_, s6.seq T5, _, rfl, _, rfl, ?_⟩
          rw [Int.zero_add]
          exact hR H6 (Same.refl H6)
        · intro l H6 nl s6 h6
          refine ⟨l, rfl, ext H6 l ((List.range w2.toNat).map fun (k : Nat) => w1 + (k : Int)) s6 (by rw [h6, List.map_map]; rfl) ?_ (by rw [List.length_map, List.length_range]; omega)⟩
          intro y hy
          obtain ⟨k, _, rfl⟩ := List.mem_map.mp hy
          omega
      · refine ⟨tyv_list (seq_of P5), _, T5, _, rfl, _, rfl, _, T5, _, rfl, _, T5, _, rfl, _, rfl, _, rfl, _, seq_of P5, New.intro fun l H6 nl s6 h6 => ?_⟩
        obtain ⟨ms, em, hm, lm⟩ := cutV_ints xs (some w1) (some (w1 + w2))
        rw [em] at h6
        exact ext H6 l ms s6 h6 (fun y hy => h0' y (hm y hy)) (by omega)
      · refine ⟨tyv_list (seq_of P5), _, T5, _, rfl, _, T5, _, rfl, _, rfl, _, rfl, _, T5, _, rfl, by decide, New.intro fun l H6 nl s6 h6 => ?_⟩
        refine ext H6 l [w4 + w1, w4] s6 h6 (fun y hy => ?_) (by show 2 ≤ _; omega)
        rcases List.mem_cons.mp hy with e | e
        · omega
        · rw [List.mem_singleton.mp e]
          exact l4.1
      · refine ⟨tyv_list (seq_of P5), _, T5, _, rfl, _, rfl, Cmp.pureR (fun k => .int (k : Int)) (by omega) (fun _ => rfl) ?_ ?_⟩
        · intro j H6 R hj s6 hR
          walk_at "rd"
          rw [Int.zero_add]
          exact hR H6 (Same.refl H6)
        · intro l H6 nl s6 h6
          refine ⟨l, rfl, ext H6 l ((List.range w3.toNat).map fun (k : Nat) => (k : Int)) s6 (by rw [h6, List.map_map]; rfl) ?_ (by rw [List.length_map, List.length_range]; omega)⟩
          intro y hy
          obtain ⟨k, _, rfl⟩ := List.mem_map.mp hy
          omega
    · rintro σ H' ⟨x1, x2, xs, rfl, s', h3', hp, h0', hlen⟩
      walk_at "rd"
      refine ⟨_, seq_of hp, New.intro fun u H6 nu s6 h6 => ?_⟩
      rw [show (some 80 : Option Int) = some ((80 : Nat) : Int) from rfl, cut_to, ← List.map_take] at h6
      exact q u H6 (xs.take 80) (s'.free nu) (s'.trans s6) h6 (fun x hx => h0' x (List.mem_of_mem_take hx)) (by rw [List.length_take]; omega)
end

/-! ### the mathematics -/
/-- how far back a line was asked for: told by what is ahead of it -/
def farP (P : List Int) (n : Int) : V := if n ∈ P then .int ((dd P.reverse).idxOf n + 1 : Nat) else .non
def distN (ns : List Int) (i : Nat) : List V := (List.range i).map fun k => farP (ns.take k) (ns.getD k 0)
def distL (ns : List Int) : List V := distN ns ns.length
theorem distN_succ {ns : List Int} {i : Nat} {z : Int} (h : ns[i]? = some z) : distN ns (i + 1) = distN ns i ++ [farP (ns.take i) z] := by
  unfold distN
  rw [List.range_succ, List.map_append, List.map_singleton, List.getD_eq_getElem?_getD, h]
  rfl
theorem distN_len (ns : List Int) (i : Nat) : (distN ns i).length = i := by
  unfold distN
  rw [List.length_map, List.length_range]
theorem distL_len (ns : List Int) : (distL ns).length = ns.length := distN_len _ _
theorem distL_at {ns : List Int} {i : Nat} (h : i < ns.length) : (distL ns)[i]? = some (farP (ns.take i) ns[i]) := by
  unfold distL distN
  rw [List.getElem?_map, List.getElem?_range h]
  show some (farP (ns.take i) (ns.getD i 0)) = _
  rw [List.getD_eq_getElem?_getD, List.getElem?_eq_getElem h]
  rfl
def isFar : V → Bool
  | .non => true
  | .int z => decide (0 ≤ z)
  | _ => false
theorem isFar_P (P : List Int) (n : Int) : isFar (farP P n) = true := by
  unfold farP
  split
  · show decide ((0 : Int) ≤ (((dd P.reverse).idxOf n + 1 : Nat) : Int)) = true
    exact decide_eq_true (Int.natCast_nonneg _)
  · rfl
theorem far_pd {x : V} (h : isFar x = true) : isPd x = true := by
  cases x <;> first | rfl | cases h
theorem far_or {x : V} (h : isFar x = true) : x = .non ∨ ∃ z, x = .int z := by
  cases x <;> first | exact .inl rfl | exact .inr ⟨_, rfl⟩ | cases h
theorem dist_far (ns : List Int) : ∀ x ∈ distL ns, isFar x = true := fun x hx => by
  obtain ⟨k, _, rfl⟩ := List.mem_map.mp hx
  exact isFar_P _ _
theorem dist_pd (ns : List Int) : (distL ns).all isPd = true := List.all_eq_true.mpr fun x hx => far_pd (dist_far ns x hx)
def pF (B : Int) : V → Bool
  | .int z => decide (z > B)
  | _ => true
def missV (B : Int) (xs : List V) : Nat := (xs.filter (pF B)).length
def countL (ns : List Int) (B : Nat) : List Int := (List.range B).map fun (k : Nat) => ((missV ((k : Int) + 1) (distL ns) : Nat) : Int)
theorem countL_at {ns : List Int} {B k : Nat} (h : k < B) : (countL ns B)[k]? = some ((missV ((k : Int) + 1) (distL ns) : Nat) : Int) := by
  unfold countL
  rw [List.getElem?_map, List.getElem?_range h]
  rfl
theorem countL_len (ns : List Int) (B : Nat) : (countL ns B).length = B := by
  unfold countL
  rw [List.length_map, List.length_range]
theorem missV_mono {B C : Int} (h : B ≤ C) : ∀ xs : List V, missV C xs ≤ missV B xs
  | [] => Nat.le_refl _
  | x :: r => by
    have ih := missV_mono h r
    unfold missV at ih ⊢
    cases x with
    | int z =>
      rw [List.filter_cons, List.filter_cons]
      by_cases g : z > C
      · have g2 : z > B := by omega
        rw [show pF C (.int z) = true from decide_eq_true g, show pF B (.int z) = true from decide_eq_true g2, if_pos rfl, if_pos rfl, List.length_cons, List.length_cons]
        omega
      · rw [show pF C (.int z) = false from decide_eq_false g, if_neg (by decide)]
        split
        · rw [List.length_cons]
          omega
        · exact ih
    | _ =>
      show ((_ :: r.filter (pF C)) : List V).length ≤ ((_ :: r.filter (pF B)) : List V).length
      rw [List.length_cons, List.length_cons]
      omega
theorem dd_erase {n : Int} {ys : List Int} : n :: (dd ys).erase n = dd (n :: ys) := by
  show _ = n :: (dd ys).filter _
  congr 1
  have h := List.Nodup.erase_eq_filter (nd_dd ys) n
  rw [h]
  congr 1
  funext y
  by_cases e : y = n <;> simp [e]
theorem far_back {A B : List Int} {n : Int} (h : n ∉ B) : (dd (A ++ n :: B).reverse).idxOf n + 1 = (dd (n :: B).reverse).length := by
  have hb : n ∉ B.reverse := by simpa using h
  have e1 : (A ++ n :: B).reverse = (B.reverse ++ [n]) ++ A.reverse := by simp
  have e2 : (n :: B).reverse = B.reverse ++ [n] := by simp
  obtain ⟨W, e3⟩ := dd_pre (B.reverse ++ [n]) A.reverse
  have e4 : dd (B.reverse ++ [n]) = dd B.reverse ++ [n] := by rw [dd_snoc, if_neg hb]
  rw [e1, e2, e3, e4, List.length_append, List.length_singleton, List.append_assoc, List.idxOf_append, if_neg (fun h => hb (mem_dd.mp h))]
  simp
theorem dd_len : ∀ ys : List Int, (dd ys).length ≤ ys.length
  | [] => Nat.le_refl _
  | y :: r => by
    show (y :: (dd r).filter _).length ≤ _
    rw [List.length_cons, List.length_cons]
    have h1 := List.length_filter_le (fun z => decide (z ≠ y)) (dd r)
    have h2 := dd_len r
    omega
theorem nd_len {xs ys : List Int} (hx : xs.Nodup) (hy : ys.Nodup) (h : ∀ k, k ∈ xs ↔ k ∈ ys) : xs.length = ys.length := ((List.perm_ext_iff_of_nodup hx hy).mpr h).length_eq
/-- fetched by a store of B lines: just where it is None or further back than B -/
theorem far_fetch {B : Nat} {P : List Int} {n : Int} : (!decide (n ∈ lastL B P)) = pF (B : Int) (farP P n) := by
  have mem : n ∈ P ↔ n ∈ dd P.reverse := by rw [mem_dd, List.mem_reverse]
  unfold farP lastL
  by_cases h : n ∈ P
  · rw [if_pos h]
    have hx := List.idxOf_lt_length_of_mem (mem.mp h)
    show _ = decide _
    by_cases g : (dd P.reverse).idxOf n < B
    · have hin : n ∈ (dd P.reverse).take B := by
        rw [List.mem_iff_getElem?]
        exact ⟨(dd P.reverse).idxOf n, by rw [List.getElem?_take, if_pos g, List.getElem?_eq_getElem hx, List.getElem_idxOf]⟩
      rw [decide_eq_true hin, decide_eq_false (by omega)]
      rfl
    · have hin : n ∉ (dd P.reverse).take B := fun hi => by
        obtain ⟨j, hj⟩ := List.mem_iff_getElem?.mp hi
        rw [List.getElem?_take] at hj
        by_cases hjB : j < B
        · rw [if_pos hjB] at hj
          obtain ⟨h1, h2⟩ := List.getElem?_eq_some_iff.mp hj
          have h3 : (dd P.reverse).idxOf n ≤ j := by
            have := List.not_of_lt_findIdx (p := (· == n)) (xs := dd P.reverse) (i := j)
            by_cases hl : j < (dd P.reverse).findIdx (· == n)
            · have := this hl
              simp [h2] at this
            · exact Nat.not_lt.mp hl
          omega
        · rw [if_neg hjB] at hj
          cases hj
      rw [decide_eq_false hin, decide_eq_true (by omega)]
      rfl
  · rw [if_neg h, decide_eq_false fun hi => h (mem.mpr (List.mem_of_mem_take hi))]
    rfl
/-! ### the promises -/
def spDist (K : PySem.W.Frag) : Sp := fun vs H Q _ => ∃ (a : Addr) (ns : List Int), vs = [.ref a] ∧ SqL K H a (ns.map V.int) ∧ (∀ n ∈ ns, 0 ≤ n) ∧ ns.length ≤ 1000 ∧ ∀ p H1, H p = none → Same H H1 → H1 p = some (.lst (distL ns)) → Q (.ref p) H1
def spMissed (K : PySem.W.Frag) : Sp := fun vs H Q _ => ∃ (a : Addr) (xs : List V) (B : Int), vs = [.ref a, .int B] ∧ SqL K H a xs ∧ (∀ x ∈ xs, isFar x = true) ∧ xs.length ≤ 1000 ∧ ∀ H1, Same H H1 → Q (.int (missV B xs : Nat)) H1
def spCounts (K : PySem.W.Frag) : Sp := fun vs H Q _ => ∃ (a : Addr) (ns : List Int) (B : Nat), vs = [.ref a, .int (B : Int)] ∧ SqL K H a (ns.map V.int) ∧ (∀ n ∈ ns, 0 ≤ n) ∧ ns.length ≤ 1000 ∧ 1 ≤ B ∧ B ≤ 32 ∧ ∀ p H1, H p = none → Same H H1 → H1 p = some (.lst ((countL ns B).map V.int)) → Q (.ref p) H1
def spFar (K : PySem.W.Frag) : Sp := fun vs H Q _ => ∃ (a : Addr) (ns : List Int) (k : Nat) (z : Int), vs = [.ref a, .int (k : Int)] ∧ SqL K H a (ns.map V.int) ∧ ns.length ≤ 1000 ∧ ns[k]? = some z ∧ ∀ H1, Same H H1 → Q (farP (ns.take k) z) H1
def spGone (K : PySem.W.Frag) : Sp := fun vs H Q _ => ∃ (a d : Addr) (ns : List Int) (B : Nat), vs = [.ref a, .int (B : Int), .ref d] ∧ SqL K H a (ns.map V.int) ∧ SqL K H d (distL ns) ∧ (∀ n ∈ ns, 0 ≤ n) ∧ ns.length ≤ 1000 ∧ 1 ≤ B ∧ B ≤ 32 ∧ ∀ H1, Same H H1 → Q (.int (missV (B : Int) (distL ns) : Nat)) H1
def spCounted (K : PySem.W.Frag) : Sp := fun vs H Q _ => ∃ (a d t : Addr) (ns : List Int) (B : Nat), vs = [.ref a, .int (B : Int), .ref d, .ref t] ∧ SqL K H a (ns.map V.int) ∧ SqL K H d (distL ns) ∧ SqL K H t ((countL ns B).map V.int) ∧ (∀ n ∈ ns, 0 ≤ n) ∧ ns.length ≤ 1000 ∧ 1 ≤ B ∧ B ≤ 32 ∧ ∀ H1, Same H H1 → Q (.bl true) H1
def spLaw (K : PySem.W.Frag) : Sp := fun vs H Q _ => ∃ (a : Addr) (ns : List Int), vs = [.ref a] ∧ SqL K H a (ns.map V.int) ∧ ns.length ≤ 63 ∧ ∀ H', Q (.bl true) H'
section
variable {P : Program} {w : World} {K : PySem.W.Frag} {mg : Str → Option Value} {base : Heap}
theorem ok_distances {f : Addr} {fd : FuncData} (F : Fun K "distances" "distances" s_distances f fd) (D_need_lines : Dn P w K mg base CX0 3 "need_lines" ["lines"] (spNeedLines K)) : FnOk P w K mg base CX0 4 f fd ["lines"] (spDist K) := by
  refine F.ok sc_distances (fun vs H Q E h => ?_) (fun cdv A outer s H vs Q E hr h => ?_)
  · obtain ⟨a, ns, rfl, _⟩ := h
    rfl
  · obtain ⟨a, ns, rfl, hS, h0, hl, q⟩ := h
    refine ⟨_, (pss_cons (ps_expr (pe_cd D_need_lines (hr.mono (by decide)) (by rfl) pass0 (pa_cons (pv 0) pa_nil)))
      (pss_cons (ps_set (i := 1) sc_distances.nd rfl (by first | exact Or.inl rfl | exact Or.inr rfl) (pe_lst pa_nil))
      (pss_cons (ps_set (i := 2) sc_distances.nd rfl (by first | exact Or.inl rfl | exact Or.inr rfl) (pe_lst pa_nil))
      (pss_cons (ps_for PassesOwn.never rfl (pi_listK (pv 0) (K := K)) (pg_name (i := 3) sc_distances.nd rfl (by first | exact Or.inl rfl | exact Or.inr rfl)) (pss_cons (ps_if (pt_cmpR (op_in_seqK (K := K)) (pv 3) (pv 1) (by rfl)) (pss_cons (ps_expr (pe_bmK (K := K) PySem.F.plainAttrs_list PySem.F.slot_list_append PySem.F.type_list_append mt_append (pv 2) (pa_cons (pe_op op_add (pe_bmK (K := K) PySem.F.plainAttrs_list PySem.F.slot_list_index PySem.F.type_list_index (mt_indexK (K := K)) (pv 1) (pa_cons (pv 3) pa_nil)) pe_int) pa_nil)))
      (pss_one (ps_expr (pe_bmK (K := K) PySem.F.plainAttrs_list PySem.F.slot_list_remove PySem.F.type_list_remove mt_remove (pv 1) (pa_cons (pv 3) pa_nil))))) (pss_one (ps_expr (pe_bmK (K := K) PySem.F.plainAttrs_list PySem.F.slot_list_append PySem.F.type_list_append mt_append (pv 2) (pa_cons pe_non pa_nil)))))
      (pss_one (ps_expr (pe_bmK (K := K) PySem.F.plainAttrs_list PySem.F.slot_list_insert PySem.F.type_list_insert mt_insertR (pv 1) (pa_cons pe_int (pa_cons (pv 3) pa_nil)))))))
      (pss_one (ps_ret (pv 2))))))), ?_⟩
    walk_at "rd"
    refine ⟨a, ns, rfl, hS, h0, by decide, New.intro fun d H1 nd s1 h1 => ⟨by decide, New.intro fun p H2 np s2 h2 => ⟨⟨_, (s1.trans s2).seq hS⟩, ?_⟩⟩⟩
    have ndp : d ≠ p := fun e => by
      subst e
      rw [h1] at np
      cases np
    refine Loop.list (xs := ns.map V.int) (fun i σ H3 => ∃ (x : Option V), σ = [some (.ref a), some (.ref d), some (.ref p), x] ∧ Same H H3 ∧ H3 d = some (.lst ((dd (ns.take i).reverse).map V.int)) ∧ H3 p = some (.lst (distN ns i)))
      ⟨none, rfl, s1.trans s2, s2 _ _ h1, h2⟩ ?_ ?_ ?_
    · rintro i σ H3 _ ⟨x, rfl, s3, _⟩
      exact s3.seq hS
    · rintro i x σ H3 hx ⟨y, rfl, s3, h3, h4⟩
      obtain ⟨z, hz, rfl⟩ := int_at hx
      have hi : i < ns.length := (List.getElem?_eq_some_iff.mp hz).1
      walk_at "rd"
      have hp : ∀ H4, Off p H3 H4 → Same H H4 := fun H4 o => Same.off s3 (s1.free np) o
      have dl : (dd (ns.take i).reverse).length ≤ 1000 := by
        have h := dd_len (ns.take i).reverse
        rw [List.length_reverse, List.length_take] at h
        omega
      have er : dd (ns.take (i + 1)).reverse = z :: (dd (ns.take i).reverse).erase z := by
        rw [dd_erase, take_snoc hz, List.reverse_append]
        rfl
      have mem : z ∈ dd (ns.take i).reverse ↔ z ∈ ns.take i := by rw [mem_dd, List.mem_reverse]
      refine ⟨_, .inl (seq_of h3), rfl, flat_ints _, ?_⟩
      rw [inV_int, distN_succ hz, er]
      by_cases hin : z ∈ dd (ns.take i).reverse
      · rw [decide_eq_true hin]
        refine iteP rfl ⟨tyv_list (seq_of h4), tyv_list (seq_of h3), _, seq_of h3, rfl, flat_ints _, (dd (ns.take i).reverse).idxOf z, .int z, at_int (idx_at hin), by rw [eqV_int, decide_eq_true rfl], ?_, _, h4, sz100l (by rw [distN_len]; omega), Upd.intro fun H4 o4 h5 => ?_⟩
        · intro m z' hm hz'
          obtain ⟨u, hu, rfl⟩ := int_at hz'
          rw [eqV_int]
          refine decide_eq_false fun e => idx_ne m hm ?_
          rw [hu, e]
        have h6 := o4 _ _ ndp h3
        refine ⟨tyv_list (seq_of h6), _, h6, _, idx_at hin, idx_ne, Upd.intro fun H5 o5 h7 => ?_⟩
        rw [← List.erase_eq_eraseIdx_of_idxOf rfl] at h7
        have ne := List.length_erase_le (a := z) (l := dd (ns.take i).reverse)
        refine ⟨tyv_list (seq_of h7), _, h7, sz100l (by rw [List.length_map]; omega), by decide, by decide, Upd.intro fun H6 o6 h8 => ⟨Same.off (hp H4 o4) nd (o5.trans o6), h8, ?_⟩⟩
        rw [o6 _ _ (Ne.symm ndp) (o5 _ _ (Ne.symm ndp) h5)]
        unfold farP
        rw [if_pos (mem.mp hin)]
        rfl
      · rw [decide_eq_false hin]
        refine iteN (by decide) ⟨tyv_list (seq_of h4), _, h4, sz100l (by rw [distN_len]; omega), Upd.intro fun H4 o4 h5 => ?_⟩
        have h6 := o4 _ _ ndp h3
        refine ⟨tyv_list (seq_of h6), _, h6, sz100l (by rw [List.length_map]; omega), by decide, by decide, Upd.intro fun H6 o6 h8 => ⟨Same.off (hp H4 o4) nd o6, ?_, ?_⟩⟩
        · rw [h8, List.erase_of_not_mem hin]
          rfl
        · rw [o6 _ _ (Ne.symm ndp) h5]
          unfold farP
          rw [if_neg fun h => hin (mem.mpr h)]
    · rintro σ H3 ⟨y, rfl, s3, h3, h4⟩
      walk_at "rd"
      rw [List.length_map] at h4
      exact q p H3 (s1.free np) s3 h4
theorem ok_missed {f : Addr} {fd : FuncData} (F : Fun K "missed" "missed" s_missed f fd) (z_len : mg "len" = none) : FnOk P w K mg base CX0 1 f fd ["found", "bound"] (spMissed K) := by
  refine F.ok sc_missed (fun vs H Q E h => ?_) (fun cdv A outer s H vs Q E hr h => ?_)
  · obtain ⟨a, xs, B, rfl, _⟩ := h
    rfl
  · obtain ⟨a, xs, B, rfl, hS, hf, hl, q⟩ := h
    refine ⟨_, (pss_one (ps_ret (pe_callB (call_lenR (K := K)) (by rfl) z_len (by decide +kernel) (pa_cons (pe_lc (own := [("far", 2)]) (g := gName 2) rfl sc_missed.nd (pi_listK (pv 0) (K := K)) (blkOk_by (own := [("far", 2)]) (N := ["found", "bound", "far"]) (sc := defScope s_missed) (by decide +kernel)) (fun _ _ _ _ _ => pg_name (i := 2) sc_missed.nd rfl (Or.inl rfl)) (fun _ _ _ _ _ => (pts_one (PW.pt (pw_or (pt_cmpR op_isN (pv 2) pe_non (nomark _)) (pw_or1 (pt_cmpR op_gt (pv 2) (pv 1) (nomark _))))))) (fun _ _ _ _ _ => (pv 2))) pa_nil)))), ?_⟩
    walk_at "rd"
    refine ⟨⟨_, hS⟩, Cmp.pureF (pF B) id hS (by omega) (fun _ => rfl) ?_ ?_ ?_⟩
    · rintro x H3 R hx s3 hR
      have r := hR H3 (Same.refl H3)
      rcases far_or (hf x hx) with rfl | ⟨z, rfl⟩
      · walk_at "rd"
        exact r
      · walk_at "rd"
        exact r
    · rintro x H3 R hx _ s3 hR
      exact ⟨_, rfl, hR H3 (Same.refl H3)⟩
    · intro l H2 nl s2 h2
      rw [List.map_id] at h2
      exact ⟨l, rfl, _, .inl (seq_of h2), q H2 s2⟩
theorem ok_counts {f : Addr} {fd : FuncData} (F : Fun K "counts" "counts" s_counts f fd) (z_range : mg "range" = none) (D_distances : Dn P w K mg base CX0 4 "distances" ["lines"] (spDist K)) (D_need_bound : Dn P w K mg base CX0 3 "need_bound" ["most"] spNeedBound) (D_missed : Dn P w K mg base CX0 1 "missed" ["found", "bound"] (spMissed K)) : FnOk P w K mg base CX0 5 f fd ["lines", "most"] (spCounts K) := by
  refine F.ok sc_counts (fun vs H Q E h => ?_) (fun cdv A outer s H vs Q E hr h => ?_)
  · obtain ⟨a, ns, B, rfl, _⟩ := h
    rfl
  · obtain ⟨a, ns, B, rfl, hS, h0, hl, hB, hB2, q⟩ := h
    refine ⟨_, (pss_cons (ps_set (i := 2) sc_counts.nd rfl (by first | exact Or.inl rfl | exact Or.inr rfl) (pe_cd D_distances (hr.mono (by decide)) (by rfl) pass0 (pa_cons (pv 0) pa_nil)))
      (pss_cons (ps_expr (pe_cd D_need_bound (hr.mono (by decide)) (by rfl) pass0 (pa_cons (pv 1) pa_nil)))
      (pss_one (ps_ret (pe_lc (own := [("bound", 3)]) (g := gName 3) (tt := tYes) rfl sc_counts.nd (pi_rangeL2 (by rfl) z_range (pa_cons pe_int (pa_cons (pe_op op_add (pv 1) pe_int) pa_nil))) (blkOk_by (own := [("bound", 3)]) (N := ["lines", "most", "found", "bound"]) (sc := defScope s_counts) (by decide +kernel)) (fun _ _ _ _ _ => pg_name (i := 3) sc_counts.nd rfl (Or.inl rfl)) (fun _ _ _ _ _ => pts_nil) (fun _ _ _ _ _ => (pe_cd D_missed (hr.mono (by decide)) (by rfl) pass0 (pa_cons (pv 2) (pa_cons (pv 3) pa_nil))))))))), ?_⟩
    walk_at "rd"
    refine ⟨a, ns, rfl, hS, h0, hl, fun p H1 np s1 h1 => ?_⟩
    walk_at "rd"
    refine ⟨B, rfl, hB, hB2, ?_⟩
    rw [show ((B : Int) + 1 - 1).toNat = B by omega]
    refine Cmp.pureR (fun k => .int ((missV ((k : Int) + 1) (distL ns) : Nat) : Int)) (by omega) (fun _ => rfl) ?_ ?_
    · intro i H2 R hi s2 hR
      walk_at "rd"
      refine ⟨p, distL ns, _, rfl, seq_of (s2 _ _ h1), dist_far ns, by rw [distL_len]; omega, fun H3 s3 => ?_⟩
      have r := hR H3 s3
      rw [Int.add_comm] at r
      exact r
    · intro l H2 nl s2 h2
      refine q l H2 (s1.free nl) (s1.trans s2) ?_
      rw [h2]
      unfold countL
      rw [List.map_map]
      rfl
theorem ok_far {f : Addr} {fd : FuncData} (F : Fun K "_law_far" "_law_far" s_law_far f fd) (z_len : mg "len" = none) (z_set : mg "set" = none) : FnOk P w K mg base CX0 1 f fd ["_law_lines_here", "_law_k"] (spFar K) := by
  refine F.ok sc_law_far (fun vs H Q E h => ?_) (fun cdv A outer s H vs Q E hr h => ?_)
  · obtain ⟨a, ns, k, z, rfl, _⟩ := h
    rfl
  · obtain ⟨a, ns, k, z, rfl, hS, hl, hz, q⟩ := h
    refine ⟨_, (pss_cons (ps_set (i := 2) sc_law_far.nd rfl (by first | exact Or.inl rfl | exact Or.inr rfl) (pe_op op_sub (pv 1) pe_int))
      (pss_cons (ps_while PassesOwn.never (PW.pt (pw_and (pt_cmpR op_ge (pv 2) pe_int (nomark _)) (pw_and1 (pt_cmpR op_ne (pe_ix (ix_listK (K := K)) (pv 0) (pv 2) (fun _ _ => rfl)) (pe_ix (ix_listK (K := K)) (pv 0) (pv 1) (fun _ _ => rfl)) (nomark _))))) (pss_one (ps_aug (i := 2) sc_law_far.nd rfl (by first | exact Or.inl rfl | exact Or.inr rfl) pe_int ip_sub)))
      (pss_cons (ps_if (pt_cmpR op_lt (pv 2) pe_int (nomark _)) (pss_one (ps_ret pe_non)) pss_nil)
      (pss_one (ps_ret (pe_lenSetS (K := K) (by rfl) z_len (by rfl) z_set (pe_slice (sl_listK (K := K)) (pv 0) (po_some (pv 2)) (po_some (pv 1))))))))), ?_⟩
    walk_at "rd"
    have hk : k < ns.length := (List.getElem?_eq_some_iff.mp hz).1
    refine ⟨fun m σ H' => H' = H ∧ m ≤ k ∧ σ = [some (.ref a), some (.int (k : Int)), some (.int ((m : Int) - 1))] ∧ z ∉ (ns.take k).drop m, ⟨k, rfl, Nat.le_refl _, rfl, by rw [List.drop_eq_nil_of_le (by rw [List.length_take]; omega)]; exact List.not_mem_nil⟩, ?_⟩
    rintro m σ H' ⟨rfl, hm, rfl, hno⟩
    walk_at "rd"
    have hk2 : atI (ns.map V.int) (k : Int) = some (.int z) := atI_nat (at_int hz)
    refine ite2 (fun c => ?_) (fun c => iteP (by omega) ?_)
    · obtain ⟨j, rfl⟩ : ∃ j, m = j + 1 := ⟨m - 1, by omega⟩
      have hj : j < ns.length := by omega
      have hx : ns[j]? = some ns[j] := List.getElem?_eq_getElem hj
      have hat : atI (ns.map V.int) (((j + 1 : Nat) : Int) - 1) = some (.int ns[j]) := at_of (j := j) (by omega) (at_int hx)
      have hxk : (ns.take k)[j]? = some ns[j] := by rw [List.getElem?_take, if_pos (by omega), hx]
      refine ⟨_, hS, _, hat, _, hS, _, hk2, rfl, ite2 (fun e => ?_) (fun e => iteN (by omega) ⟨_, hS, New.intro fun p H2 np s2 h2 => ?_⟩)⟩
      · refine ⟨_, fun σ2 H2 h => h, j, by omega, rfl, by omega, by rw [show ((j + 1 : Nat) : Int) - 1 - 1 = (j : Int) - 1 by omega], ?_⟩
        rw [drop_at hxk, List.mem_cons, not_or]
        exact ⟨fun h => e (by rw [h]), hno⟩
      · have ez : ns[j] = z := V.int.inj (Classical.not_not.mp e)
        rw [show ((j + 1 : Nat) : Int) - 1 = (j : Int) by omega, cut_mid, ← List.map_drop, ← List.map_take] at h2
        have esp : ns.take k = ns.take j ++ z :: (ns.take k).drop (j + 1) := by
          rw [← ez, ← drop_at hxk]
          have h := List.take_append_drop j (ns.take k)
          rw [List.take_take, Nat.min_eq_left (by omega)] at h
          exact h.symm
        have esl : (ns.drop j).take (k - j) = z :: (ns.take k).drop (j + 1) := by
          rw [← ez, ← drop_at hxk, List.drop_take]
        rw [esl] at h2
        have hl2 : (z :: (ns.take k).drop (j + 1)).length ≤ 4000 := by
          rw [List.length_cons, List.length_drop, List.length_take]
          omega
        refine ⟨_, seq_of h2, hl2, fun ds nds hds => ?_⟩
        have e2 := far_back (A := ns.take j) hno
        rw [← esp] at e2
        have e3 : ds.length = (dd (ns.take k).reverse).idxOf z + 1 := by
          rw [e2]
          exact nd_len nds (nd_dd _) fun y => by rw [hds, mem_dd, List.mem_reverse]
        have q2 := q H2 s2
        unfold farP at q2
        rw [if_pos (by rw [esp]; exact List.mem_append_right _ List.mem_cons_self)] at q2
        rw [e3]
        exact q2
    · have m0 : m = 0 := by omega
      subst m0
      have q2 := q H' (Same.refl H')
      unfold farP at q2
      rw [List.drop_zero] at hno
      rw [if_neg hno] at q2
      exact q2
theorem ok_gone {f C_Kept : Addr} {fd : FuncData} (F : Fun K "_law_gone_through" "_law_gone_through" s_law_gone_through f fd) (z_len : mg "len" = none) (z_int : mg "int" = none) (z_range : mg "range" = none) (K_Kept : Cls K C_Kept) (M_Kept : Mn P w K mg base CX0 4 C_Kept "Kept" ["self", "most"] (spKInit C_Kept)) (N_Kept_touch : Nn P w K mg base CX0 3 C_Kept "touch" ["self", "line"] (spTouch C_Kept)) : FnOk P w K mg base CX0 6 f fd ["_law_lines_here", "_law_most", "_law_due"] (spGone K) := by
  refine F.ok sc_law_gone_through (fun vs H Q E h => ?_) (fun cdv A outer s H vs Q E hr h => ?_)
  · obtain ⟨a, d, ns, B, rfl, _⟩ := h
    rfl
  · obtain ⟨a, d, ns, B, rfl, hS, hD, h0, hl, hB, hB2, q⟩ := h
    refine ⟨_, (pss_cons (ps_set (i := 3) sc_law_gone_through.nd rfl (by first | exact Or.inl rfl | exact Or.inr rfl) (pe_mk M_Kept (hr.mono (by decide)) (by rfl) pass0 (pa_cons (pv 1) pa_nil)))
      (pss_cons (ps_set (i := 4) sc_law_gone_through.nd rfl (by first | exact Or.inl rfl | exact Or.inr rfl) pe_int)
      (pss_cons (ps_for PassesOwn.never rfl (pi_rangeL1 (by rfl) z_range (pa_cons (pe_callB (call_lenR (K := K)) (by rfl) z_len (by decide +kernel) (pa_cons (pv 0) pa_nil)) pa_nil)) (pg_name (i := 5) sc_law_gone_through.nd rfl (by first | exact Or.inl rfl | exact Or.inr rfl)) (pss_cons (ps_set (i := 6) sc_law_gone_through.nd rfl (by first | exact Or.inl rfl | exact Or.inr rfl) (pe_ix (ix_tupK (K := K)) (pe_md (pv 3) N_Kept_touch (hr.mono (by decide)) pass0 (pa_cons (pe_ix (ix_listK (K := K)) (pv 0) (pv 5) (fun _ _ => rfl)) pa_nil)) pe_int (fun _ _ => rfl)))
      (pss_cons (ps_if (pt_cmpR op_ne (pv 6) (pe_or (pe_cmpR op_isN (pe_ix (ix_listK (K := K)) (pv 2) (pv 5) (fun _ _ => rfl)) pe_non (nomark _)) (pe_one (pe_cmpR op_gt (pe_ix (ix_listK (K := K)) (pv 2) (pv 5) (fun _ _ => rfl)) (pv 1) (nomark _)))) (nomark _)) (pss_one (ps_ret pe_non)) pss_nil)
      (pss_one (ps_aug (i := 4) sc_law_gone_through.nd rfl (by first | exact Or.inl rfl | exact Or.inr rfl) (pe_callTy call_int1R (by rfl) z_int (by decide +kernel) (pa_cons (pv 6) pa_nil)) ip_add)))))
      (pss_one (ps_ret (pv 4)))))), ?_⟩
    walk_at "rd"
    refine Made.intro fun p dx H1 np s1 h1 => ?_
    refine ⟨p, dx, B, rfl, h1, hB, hB2, fun d2 H2 o2 nd2 k2 => ⟨rfl, ?_⟩⟩
    have s2 : Same H H2 := Same.off s1 np o2
    have nd0 : H d2 = none := s1.free nd2
    refine ⟨_, .inl (s2.seq hS), ?_⟩
    rw [List.length_map]
    refine Loop.range (fun i σ H3 => ∃ (x1 x2 : Option V), σ = [some (.ref a), some (.int (B : Int)), some (.ref d), some (.ref p), some (.int (missV (B : Int) (distN ns i) : Nat)), x1, x2] ∧ Same H H3 ∧ KeptAt C_Kept H3 p d2 B (lastL B (ns.take i)))
      ⟨none, none, rfl, s2, by rw [show lastL B (ns.take 0) = [] by simp [lastL, dd]]; exact k2⟩ ?_ ?_
    · rintro i σ H3 hi ⟨x1, x2, rfl, s3, k3⟩
      walk_at "rd"
      have hx : ns[i]? = some ns[i] := List.getElem?_eq_getElem hi
      have hat : atI (ns.map V.int) (0 + (i : Int)) = some (.int ns[i]) := by
        rw [Int.zero_add]
        exact atI_nat (at_int hx)
      have hdt : atI (distL ns) (0 + (i : Int)) = some (farP (ns.take i) ns[i]) := by
        rw [Int.zero_add]
        exact atI_nat (distL_at hi)
      obtain ⟨dx', hp'⟩ := k3.1
      refine ⟨_, _, hp', nf_touch, _, s3.seq hS, _, hat, p, d2, B, _, _, rfl, k3, h0 _ (List.mem_of_getElem? hx), lastL_len B _, hB2, hB, fun t H4 nt o4 k4 h4 => ?_⟩
      have s4 : Same H H4 := Same.off s3 nd0 o4
      rw [far_fetch] at h4
      have ek : touchL B (lastL B (ns.take i)) ns[i] = lastL B (ns.take (i + 1)) := by
        unfold lastL
        rw [touch_dd hB, take_snoc hx, List.reverse_append]
        rfl
      rw [ek] at k4
      have em : ((missV (B : Int) (distN ns i) : Nat) : Int) + (if pF (B : Int) (farP (ns.take i) ns[i]) = true then 1 else 0) = ((missV (B : Int) (distN ns (i + 1)) : Nat) : Int) := by
        unfold missV
        rw [distN_succ hx, List.filter_append, List.length_append]
        by_cases h : pF (B : Int) (farP (ns.take i) ns[i]) = true
        · rw [if_pos h, List.filter_cons, if_pos h]
          rfl
        · rw [if_neg h, List.filter_cons, if_neg h]
          rfl
      refine ⟨t, rfl, _, seqT_of h4, _, rfl, _, s4.seq hD, _, hdt, ?_⟩
      have hf := isFar_P (ns.take i) ns[i]
      generalize farP (ns.take i) ns[i] = y at hf em hdt ⊢
      rcases far_or hf with rfl | ⟨u, rfl⟩
      · exact iteP rfl ⟨rfl, iteN (fun h => h rfl) (.inr ⟨true, rfl, em, s4, k4⟩)⟩
      · refine iteN (fun h => by cases h) ⟨_, s4.seq hD, _, hdt, u, rfl, rfl, iteN (fun h => h rfl) (.inr ⟨_, rfl, em, s4, k4⟩)⟩
    · rintro σ H3 ⟨x1, x2, rfl, s3, k3⟩
      walk_at "rd"
      exact q H3 s3
theorem ok_counted {f : Addr} {fd : FuncData} (F : Fun K "_law_counted" "_law_counted" s_law_counted f fd) (z_len : mg "len" = none) (z_isinstance : mg "isinstance" = none) (z_list : mg "list" = none) (z_range : mg "range" = none) (D_law_whole : Dn P w K mg base CX0 1 "_law_whole" ["_law_found"] (spLWhole K)) (D_law_gone_through : Dn P w K mg base CX0 6 "_law_gone_through" ["_law_lines_here", "_law_most", "_law_due"] (spGone K)) : FnOk P w K mg base CX0 7 f fd ["_law_lines_here", "_law_most", "_law_due", "_law_told"] (spCounted K) := by
  refine F.ok sc_law_counted (fun vs H Q E h => ?_) (fun cdv A outer s H vs Q E hr h => ?_)
  · obtain ⟨a, d, t, ns, B, rfl, _⟩ := h
    rfl
  · obtain ⟨a, d, t, ns, B, rfl, hS, hD, hT, h0, hl, hB, hB2, q⟩ := h
    refine ⟨_, (pss_cons (ps_if (PW.pt (pw_or (pt_not (pt_val (pe_callB (call_isiK' (K := K)) (by rfl) z_isinstance (by decide +kernel) (pa_cons (pv 3) (pa_cons (pe_bltn (v := V.ty "list") (u := Value.type "list") (by rfl) z_list (by decide +kernel) rfl) pa_nil))))) (pw_or1 (pt_cmpR op_ne (pe_callB (call_lenR (K := K)) (by rfl) z_len (by decide +kernel) (pa_cons (pv 3) pa_nil)) (pv 1) (nomark _))))) (pss_one (ps_ret pe_bl)) pss_nil)
      (pss_cons (ps_for PassesOwn.never rfl (pi_rangeL1 (by rfl) z_range (pa_cons (pv 1) pa_nil)) (pg_name (i := 4) sc_law_counted.nd rfl (by first | exact Or.inl rfl | exact Or.inr rfl)) (pss_cons (ps_set (i := 5) sc_law_counted.nd rfl (by first | exact Or.inl rfl | exact Or.inr rfl) (pe_callB (call_lenR (K := K)) (by rfl) z_len (by decide +kernel) (pa_cons (pe_lc (own := [("_law_far_here", 6)]) (g := gName 6) rfl sc_law_counted.nd (pi_listK (pv 2) (K := K)) (blkOk_by (own := [("_law_far_here", 6)]) (N := ["_law_lines_here", "_law_most", "_law_due", "_law_told", "_law_k", "_law_many", "_law_far_here", "_law_bound"]) (sc := defScope s_law_counted) (by decide +kernel)) (fun _ _ _ _ _ => pg_name (i := 6) sc_law_counted.nd rfl (Or.inl rfl)) (fun _ _ _ _ _ => (pts_one (PW.pt (pw_or (pt_cmpR op_isN (pv 6) pe_non (nomark _)) (pw_or1 (pt_cmpR op_gt (pv 6) (pe_op op_add (pv 4) pe_int) (nomark _))))))) (fun _ _ _ _ _ => (pv 6))) pa_nil)))
      (pss_cons (ps_if (PW.pt (pw_or (pt_not (pt_val (pe_cd D_law_whole (hr.mono (by decide)) (by rfl) pass0 (pa_cons (pe_ix (ix_listK (K := K)) (pv 3) (pv 4) (fun _ _ => rfl)) pa_nil)))) (pw_or1 (pt_cmpR op_ne (pe_ix (ix_listK (K := K)) (pv 3) (pv 4) (fun _ _ => rfl)) (pv 5) (nomark _))))) (pss_one (ps_ret pe_bl)) pss_nil)
      (pss_one (ps_if (PW.pt (pw_and (pt_cmpR op_gt (pv 4) pe_int (nomark _)) (pw_and1 (pt_cmpR op_gt (pe_ix (ix_listK (K := K)) (pv 3) (pv 4) (fun _ _ => rfl)) (pe_ix (ix_listK (K := K)) (pv 3) (pe_op op_sub (pv 4) pe_int) (fun _ _ => rfl)) (nomark _))))) (pss_one (ps_ret pe_bl)) pss_nil)))))
      (pss_cons (ps_for PassesOwn.never rfl (pi_listK (pe_lst (pa_cons pe_int (pa_cons (pv 1) (pa_cons (pe_op op_fdivW (pe_op op_add (pv 1) pe_int) pe_int) pa_nil)))) (K := K)) (pg_name (i := 7) sc_law_counted.nd rfl (by first | exact Or.inl rfl | exact Or.inr rfl)) (pss_one (ps_if (pt_cmpR op_ne (pe_cd D_law_gone_through (hr.mono (by decide)) (by rfl) pass0 (pa_cons (pv 0) (pa_cons (pv 7) (pa_cons (pv 2) pa_nil)))) (pe_ix (ix_listK (K := K)) (pv 3) (pe_op op_sub (pv 7) pe_int) (fun _ _ => rfl)) (nomark _)) (pss_one (ps_ret pe_bl)) pss_nil)))
      (pss_one (ps_ret pe_bl))))), ?_⟩
    walk_at "rd"
    refine isiT (thg_seq hT) (by decide) (iteN (by decide) ⟨_, .inl hT, iteN (by rw [List.length_map, countL_len]; exact fun h => h rfl) ?_⟩)
    refine Loop.range (fun i σ H1 => ∃ (x1 x2 x3 : Option V), σ = [some (.ref a), some (.int (B : Int)), some (.ref d), some (.ref t), x1, x2, none, x3] ∧ Same H H1) ⟨none, none, none, rfl, Same.refl H⟩ ?_ ?_
    · rintro i σ H1 hi ⟨x1, x2, x3, rfl, s1⟩
      walk_at "rd"
      have hat : atI ((countL ns B).map V.int) (0 + (i : Int)) = some (.int ((missV ((i : Int) + 1) (distL ns) : Nat) : Int)) := by
        rw [Int.zero_add]
        exact atI_nat (at_int (countL_at hi))
      rw [Int.zero_add] at hat ⊢
      refine ⟨⟨_, s1.seq hD⟩, Cmp.pureF (pF ((i : Int) + 1)) id (s1.seq hD) (by rw [distL_len]; omega) (fun _ => rfl) ?_ ?_ ?_⟩
      · rintro x H3 R hx s3 hR
        have r := hR H3 (Same.refl H3)
        rcases far_or (dist_far ns x hx) with rfl | ⟨z, rfl⟩
        · walk_at "rd"
          exact r
        · walk_at "rd"
          exact r
      · rintro x H3 R hx _ s3 hR
        exact ⟨_, rfl, hR H3 (Same.refl H3)⟩
      · intro l H2 nl s2 h2
        rw [List.map_id] at h2
        have s12 := s1.trans s2
        refine ⟨l, rfl, _, .inl (seq_of h2), ?_⟩
        refine ⟨_, s12.seq hT, _, hat, _, _, rfl, thg_int, _, rfl, iteN (fun h => by cases h) ⟨_, s12.seq hT, _, hat, rfl, iteN (fun h => h rfl) (ite2 (fun c => ?_) (fun c => s12))⟩⟩
        have hat2 : atI ((countL ns B).map V.int) ((i : Int) - 1) = some (.int ((missV (((i - 1 : Nat) : Int) + 1) (distL ns) : Nat) : Int)) := at_of (j := i - 1) (by omega) (at_int (countL_at (by omega)))
        refine ⟨_, s12.seq hT, _, hat, _, s12.seq hT, _, hat2, _, rfl, _, rfl, iteN ?_ s12⟩
        have hm := missV_mono (B := (((i - 1 : Nat) : Int) + 1)) (C := (i : Int) + 1) (by omega) (distL ns)
        omega
    · rintro σ H1 ⟨x1, x2, x3, rfl, s1⟩
      walk_at "rd"
      refine ⟨⟨by decide, by decide⟩, by decide, New.intro fun l H2 nl s2 h2 => ⟨⟨_, seq_of h2⟩, ?_⟩⟩
      refine Loop.list (xs := [V.int 1, V.int (B : Int), V.int (((B : Int) + 1) / 2)]) (fun i σ H3 => ∃ x, σ = [some (.ref a), some (.int (B : Int)), some (.ref d), some (.ref t), x1, x2, none, x] ∧ Same H2 H3) ⟨_, rfl, Same.refl H2⟩ ?_ ?_ ?_
      · rintro i σ H3 _ ⟨x, rfl, s3⟩
        exact s3.seq (seq_of h2)
      · rintro i x σ H3 hx ⟨y, rfl, s3⟩
        obtain ⟨C, rfl, hC, hC2⟩ : ∃ C : Nat, x = .int (C : Int) ∧ 1 ≤ C ∧ C ≤ B := by
          have hm := List.mem_of_getElem? hx
          simp only [List.mem_cons, List.not_mem_nil, or_false] at hm
          rcases hm with e | e | e
          · exact ⟨1, e, by omega, by omega⟩
          · exact ⟨B, e, by omega, by omega⟩
          · exact ⟨((B : Int) + 1).toNat / 2, by rw [e]; exact congrArg V.int (by omega), by omega, by omega⟩
        have T3 := s1.trans (s2.trans s3)
        walk_at "rd"
        refine ⟨a, d, ns, C, rfl, T3.seq hS, T3.seq hD, h0, hl, hC, by omega, fun H4 s4 => ?_⟩
        have hat : atI ((countL ns B).map V.int) ((C : Int) - 1) = some (.int ((missV (C : Int) (distL ns) : Nat) : Int)) := by
          have h := countL_at (ns := ns) (B := B) (k := C - 1) (by omega)
          rw [show (((C - 1 : Nat) : Int) + 1) = (C : Int) by omega] at h
          exact at_of (j := C - 1) (by omega) (at_int h)
        walk_at "rd"
        exact ⟨_, (T3.trans s4).seq hT, _, hat, rfl, iteN (fun h => h rfl) (s3.trans s4)⟩
      · rintro σ H3 ⟨x, rfl, s3⟩
        walk_at "rd"
        exact q H3 (s1.trans (s2.trans s3))
theorem ok_law {f : Addr} {fd : FuncData} (F : Fun K "law" "law" s_law f fd) (z_len : mg "len" = none) (z_list : mg "list" = none) (z_isinstance : mg "isinstance" = none) (z_range : mg "range" = none)
    (D_law_drawn : Dn P w K mg base CX0 1 "_law_drawn" ["_law_cell", "_law_sizes"] (spDrawn K)) (D_law_lines : Dn P w K mg base CX0 2 "_law_lines" ["_law_script"] (spLines K)) (D_law_far : Dn P w K mg base CX0 1 "_law_far" ["_law_lines_here", "_law_k"] (spFar K))
    (D_law_whole : Dn P w K mg base CX0 1 "_law_whole" ["_law_found"] (spLWhole K)) (D_law_counted : Dn P w K mg base CX0 7 "_law_counted" ["_law_lines_here", "_law_most", "_law_due", "_law_told"] (spCounted K)) (D_distances : Dn P w K mg base CX0 4 "distances" ["lines"] (spDist K)) (D_counts : Dn P w K mg base CX0 5 "counts" ["lines", "most"] (spCounts K)) : FnOk P w K mg base CX0 8 f fd ["_law_script"] (spLaw K) := by
  refine F.ok sc_law (fun vs H Q E h => ?_) (fun cdv A outer s H vs Q E hr h => ?_)
  · obtain ⟨a, ns, rfl, _⟩ := h
    rfl
  · obtain ⟨a, ns, rfl, hS, hl, q⟩ := h
    refine ⟨_, (pss_cons (ps_set (i := 1) sc_law.nd rfl (by first | exact Or.inl rfl | exact Or.inr rfl) (pe_cd D_law_lines (hr.mono (by decide)) (by rfl) pass0 (pa_cons (pv 0) pa_nil)))
      (pss_cons (ps_set (i := 2) sc_law.nd rfl (by first | exact Or.inl rfl | exact Or.inr rfl) (pe_op op_add pe_int (pe_ix (ix_listK (K := K)) (pe_cd D_law_drawn (hr.mono (by decide)) (by rfl) pass0 (pa_cons (pe_op op_add (pe_ix (ix_listK (K := K)) (pe_op (op_catS (K := K)) (pv 0) (pe_lst (pa_cons pe_int pa_nil))) pe_int (fun _ _ => rfl)) pe_int) (pa_cons (pe_lst (pa_cons pe_int (pa_cons pe_int pa_nil))) pa_nil))) pe_int (fun _ _ => rfl))))
      (pss_cons (ps_setLc (i := 3) (own := [("_law_k", 4)]) (g := gName 4) (tt := tYes) rfl sc_law.nd rfl rfl (sw_true rfl rfl rfl (by decide +kernel)) (pi_rangeL1 (by rfl) z_range (pa_cons (pe_callB (call_lenR (K := K)) (by rfl) z_len (by decide +kernel) (pa_cons (pv 1) pa_nil)) pa_nil)) (blkOk_by (own := [("_law_k", 4)]) (N := ["_law_script", "_law_lines_here", "_law_most", "_law_due", "_law_k", "_law_handed", "_law_told", "_law_far_here", "_law_found"]) (sc := defScope s_law) (by decide +kernel)) (fun _ _ _ _ _ => pg_name (i := 4) sc_law.nd rfl (Or.inl rfl)) (fun _ _ _ _ _ => pts_nil) (fun _ _ _ _ _ => (pe_cd D_law_far (hr.mono (by decide)) (by rfl) pass0 (pa_cons (pv 1) (pa_cons (pv 4) pa_nil)))))
      (pss_cons (ps_set (i := 5) sc_law.nd rfl (by first | exact Or.inl rfl | exact Or.inr rfl) (pe_callTy (call_listR (K := K)) (by rfl) z_list (by decide +kernel) (pa_cons (pv 1) pa_nil)))
      (pss_cons (ps_set (i := 6) sc_law.nd rfl (by first | exact Or.inl rfl | exact Or.inr rfl) (pe_cd D_distances (hr.mono (by decide)) (by rfl) pass0 (pa_cons (pv 5) pa_nil)))
      (pss_cons (ps_if (PW.pt (pw_or (pt_not (pt_val (pe_callB (call_isiK' (K := K)) (by rfl) z_isinstance (by decide +kernel) (pa_cons (pv 6) (pa_cons (pe_bltn (v := V.ty "list") (u := Value.type "list") (by rfl) z_list (by decide +kernel) rfl) pa_nil))))) (pw_or1 (pt_cmpR (op_neDK hr.units (K := K)) (pv 6) (pv 3) (nomark _))))) (pss_one (ps_ret pe_bl)) pss_nil)
      (pss_cons (ps_if (pt_cmpR (op_neDK hr.units (K := K)) (pe_lc (own := [("_law_far_here", 7)]) (g := gName 7) rfl sc_law.nd (pi_listK (pv 6) (K := K)) (blkOk_by (own := [("_law_far_here", 7)]) (N := ["_law_script", "_law_lines_here", "_law_most", "_law_due", "_law_k", "_law_handed", "_law_told", "_law_far_here", "_law_found"]) (sc := defScope s_law) (by decide +kernel)) (fun _ _ _ _ _ => pg_name (i := 7) sc_law.nd rfl (Or.inl rfl)) (fun _ _ _ _ _ => (pts_one (PW.pt (pw_and (pt_cmpR op_notN (pv 7) pe_non (nomark _)) (pw_and1 (pt_not (pt_val (pe_cd D_law_whole (hr.mono (by decide)) (by rfl) pass0 (pa_cons (pv 7) pa_nil))))))))) (fun _ _ _ _ _ => (pv 7))) (pe_lst pa_nil) (nomark _)) (pss_one (ps_ret pe_bl)) pss_nil)
      (pss_cons (ps_expr (pe_bmK (K := K) PySem.F.plainAttrs_list PySem.F.slot_list_append PySem.F.type_list_append mt_append (pv 6) (pa_cons pe_non pa_nil)))
      (pss_cons (ps_set (i := 8) sc_law.nd rfl (by first | exact Or.inl rfl | exact Or.inr rfl) (pe_cd D_counts (hr.mono (by decide)) (by rfl) pass0 (pa_cons (pv 5) (pa_cons (pv 2) pa_nil))))
      (pss_cons (ps_if (pt_not (pt_val (pe_cd D_law_counted (hr.mono (by decide)) (by rfl) pass0 (pa_cons (pv 1) (pa_cons (pv 2) (pa_cons (pv 3) (pa_cons (pv 8) pa_nil))))))) (pss_one (ps_ret pe_bl)) pss_nil)
      (pss_cons (ps_expr (pe_bmK (K := K) PySem.F.plainAttrs_list PySem.F.slot_list_append PySem.F.type_list_append mt_append (pv 8) (pa_cons pe_int pa_nil)))
      (pss_cons (ps_if (PW.pt (pw_or (pt_cmpR (op_neDK hr.units (K := K)) (pe_cd D_counts (hr.mono (by decide)) (by rfl) pass0 (pa_cons (pv 5) (pa_cons (pv 2) pa_nil))) (pe_slice (sl_listK (K := K)) (pv 8) po_none (po_some (pe_un un_neg pe_int))) (nomark _)) (pw_or1 (pt_cmpR (op_neDK hr.units (K := K)) (pe_cd D_distances (hr.mono (by decide)) (by rfl) pass0 (pa_cons (pv 5) pa_nil)) (pv 3) (nomark _))))) (pss_one (ps_ret pe_bl)) pss_nil)
      (pss_one (ps_ret (pe_and (pe_cmpR (op_eqDK hr.units (K := K)) (pv 5) (pv 1) (nomark _)) (pe_and (pe_cmpR (op_eqDK hr.units (K := K)) (pe_cd D_distances (hr.mono (by decide)) (by rfl) pass0 (pa_cons (pe_lst pa_nil) pa_nil)) (pe_lst pa_nil) (nomark _)) (pe_one (pe_cmpR (op_eqDK hr.units (K := K)) (pe_cd D_counts (hr.mono (by decide)) (by rfl) pass0 (pa_cons (pe_lst pa_nil) (pa_cons (pv 2) pa_nil))) (pe_op op_rep (pe_lst (pa_cons pe_int pa_nil)) (pv 2)) (nomark _))))))))))))))))))), ?_⟩
    walk_at "rd"
    refine ⟨a, ns, rfl, hS, hl, fun p H1 xs np s1 h1 x0 xl => ?_⟩
    walk_at "rd"
    obtain ⟨z, hz⟩ := head_int ns 2
    refine ⟨by decide, New.intro fun p2 H2 n2 s2 h2 => ⟨_, (s1.trans s2).seq hS, _, seq_of h2, sz100 (by rw [List.length_map, List.length_singleton]; omega), New.intro fun p3 H3 n3 s3 h3 => ⟨_, seq_of h3, _, hz, _, rfl, by decide, New.intro fun p4 H4 n4 s4 h4 => ?_⟩⟩⟩
    refine ⟨z + 2, p4, [3, 32], rfl, seq_of h4, by decide, by decide, fun p5 H5 ws n5 s5 h5 dr => ?_⟩
    obtain ⟨w0, w1, rfl, l0, l1⟩ : ∃ w0 w1 : Int, ws = [w0, w1] ∧ (0 ≤ w0 ∧ w0 < 3) ∧ (0 ≤ w1 ∧ w1 < 32) := by
      cases dr with | cons a0 dr => cases dr with | cons a1 dr =>
      cases dr
      exact ⟨_, _, rfl, a0, a1⟩
    have T5 : SqL K H5 p5 [.int w0, .int w1] := seq_of h5
    obtain ⟨B, hBw, hB, hB2⟩ : ∃ B : Nat, 1 + w1 = (B : Int) ∧ 1 ≤ B ∧ B ≤ 32 := ⟨(1 + w1).toNat, by omega, by omega, by omega⟩
    have S15 : Same H1 H5 := s2.trans (s3.trans (s4.trans s5))
    have P5 := S15 _ _ h1
    refine ⟨p5, rfl, _, T5, _, rfl, _, rfl, ?_⟩
    rw [hBw]
    refine ⟨_, .inl (seq_of P5), Cmp.pureR (fun k => farP (xs.take k) (xs.getD k 0)) (by rw [List.length_map]; omega) (fun _ => rfl) ?_ ?_⟩
    · intro i H6 R hi s6 hR
      rw [List.length_map] at hi
      walk_at "rd"
      have hx : xs[i]? = some xs[i] := List.getElem?_eq_getElem hi
      refine ⟨p, xs, i, _, by rw [Int.zero_add], seq_of (s6 _ _ P5), by omega, hx, fun H7 s7 => ?_⟩
      have r := hR H7 s7
      rw [List.getD_eq_getElem?_getD, hx] at r
      exact r
    intro d H6 nd s6 h6
    rw [List.length_map] at h6
    have D6 : H6 d = some (.lst (distL xs)) := h6
    have P6 := s6 _ _ P5
    walk_at "rd"
    refine ⟨_, .inl (seq_of P6), New.intro fun g H7 ng s7 h7 => ?_⟩
    refine ⟨g, xs, rfl, seq_of h7, x0, by omega, fun t H8 nt s8 h8 => ?_⟩
    walk_at "rd"
    have D8 := s8 _ _ (s7 _ _ D6)
    have P8 := s8 _ _ (s7 _ _ P6)
    have G8 := s8 _ _ h7
    have hpd := dist_pd xs
    have hdl := distL_len xs
    refine isiT (thg_lst h8) (by decide) (iteN (by decide) (ne_lst (seq_of h8) (seq_of D8) hpd ⟨_, rfl, iteN (by decide) ⟨⟨_, seq_of h8⟩, Cmp.pureF (fun _ => false) id (seq_of h8) (by omega) (fun _ => rfl) ?_ (fun x H2 R _ h => by cases h) ?_⟩⟩))
    · rintro x H9 R hx s9 hR
      have r := hR H9 (Same.refl H9)
      rcases far_or (dist_far xs x hx) with rfl | ⟨u, rfl⟩
      · walk_at "rd"
        exact r
      · walk_at "rd"
        refine iteP (fun h => by cases h) ⟨_, _, rfl, thg_int, _, rfl, r⟩
    intro l H9 nl s9 h9
    rw [List.filter_eq_nil_iff.mpr (fun _ _ h => by cases h)] at h9
    refine ⟨by decide, New.intro fun l2 HA nl2 sA hA => ne_ints (ns := []) (ms := []) (seq_of (sA _ _ h9)) (seq_of hA) ⟨_, rfl, iteN (by decide) ?_⟩⟩
    have s8A := s9.trans sA
    have T_A := s8A _ _ h8
    refine ⟨tyv_list (seq_of T_A), _, T_A, sz100l (by omega), Upd.intro fun HB oB hB1 => ?_⟩
    have ngt : g ≠ t := fun e => by
      subst e
      rw [h7] at nt
      cases nt
    have ndt : d ≠ t := fun e => by
      subst e
      rw [s7 _ _ D6] at nt
      cases nt
    have npt : p ≠ t := fun e => by
      subst e
      rw [s7 _ _ P6] at nt
      cases nt
    have GB := oB _ _ ngt (s8A _ _ G8)
    have DB := oB _ _ ndt (s8A _ _ D8)
    have PB := oB _ _ npt (s8A _ _ P8)
    refine ⟨g, xs, B, rfl, seq_of GB, x0, by omega, hB, hB2, fun c HC nc sC hC => ?_⟩
    refine ⟨p, d, c, xs, B, rfl, seq_of (sC _ _ PB), seq_of (sC _ _ DB), seq_of hC, x0, by omega, hB, hB2, fun HD sD => ⟨_, rfl, iteN (by decide) ?_⟩⟩
    have CD := sD _ _ hC
    refine ⟨tyv_list (seq_of CD), c, rfl, _, CD, sz100l (by rw [List.length_map, countL_len]; omega), Upd.intro fun HE oE hE => ?_⟩
    have ngc : g ≠ c := fun e => by
      subst e
      rw [GB] at nc
      cases nc
    have ndc : d ≠ c := fun e => by
      subst e
      rw [DB] at nc
      cases nc
    have npc : p ≠ c := fun e => by
      subst e
      rw [PB] at nc
      cases nc
    have GE := oE _ _ ngc (sD _ _ (sC _ _ GB))
    have DE := oE _ _ ndc (sD _ _ (sC _ _ DB))
    have PE := oE _ _ npc (sD _ _ (sC _ _ PB))
    refine ⟨g, xs, B, rfl, seq_of GE, x0, by omega, hB, hB2, fun c2 HF nF sF hF => ⟨c, rfl, _, seq_of (sF _ _ hE), New.intro fun c3 HG nG sG hG => ?_⟩⟩
    rw [cut_init] at hG
    refine ne_ints (seq_of (sG _ _ hF)) (seq_of hG) ⟨_, rfl, iteN (by rw [decide_eq_true rfl]; decide) ?_⟩
    have sFG := sF.trans sG
    refine ⟨g, xs, rfl, seq_of (sFG _ _ GE), x0, by omega, fun t2 HH nH sH hH => ?_⟩
    have sFH := sFG.trans sH
    refine ne_lst (seq_of hH) (seq_of (sFH _ _ DE)) hpd ⟨_, rfl, iteN (by decide) (eq_ints (seq_of (sFH _ _ GE)) (seq_of (sFH _ _ PE)) ⟨_, rfl, iteP (decide_eq_true rfl) ?_⟩)⟩
    have e0 : countL [] B = List.replicate B 0 := by
      show (List.range B).map (fun _ => (0 : Int)) = _
      rw [List.map_const', List.length_range]
    refine ⟨by decide, New.intro fun e1 HI n1 sI hI => ⟨e1, [], rfl, seq_of hI, fun n h => (nomatch h), by decide, fun e2 HJ n2 sJ hJ => ⟨by decide, New.intro fun e3 HK n3 sK hK => eq_ints (ns := []) (ms := []) (seq_of (sK _ _ hJ)) (seq_of hK) ⟨_, rfl, iteP rfl ⟨by decide, New.intro fun e4 HL n4 sL hL => ⟨e4, [], B, rfl, seq_of hL, fun n h => (nomatch h), by decide, hB, hB2, fun e5 HM n5 sM hM => ?_⟩⟩⟩⟩⟩⟩
    refine ⟨by decide, New.intro fun e6 HN n6 sN hN => ⟨_, hN, by omega, by omega, sz100 (by rw [List.length_singleton]; omega), New.intro fun e7 HO n7 sO hO => ?_⟩⟩
    have e8 : (List.replicate B [V.int 0]).flatten = (List.replicate B (0 : Int)).map V.int := by
      rw [List.map_replicate, List.flatten_replicate_singleton]
    rw [e8] at hO
    rw [e0] at hM
    refine eq_ints (seq_of (sO _ _ (sN _ _ hM))) (seq_of hO) ?_
    rw [decide_eq_true rfl]
    exact q _
end
theorem all_mk {l : PySem.W.OpenLaw} {w : World} {K : PySem.W.Frag} {h : Heap} {mg : Str → Option Value} {fa f_law_drawn f_is_whole f_is_within f_need_line f_need_lines f_need_bound f_Kept_init f_Kept_touch f_law_whole f_law_lines f_distances f_missed f_counts f_law_far f_law_gone_through f_law_counted f_law C_Kept : Addr} (X : K.In h) (G : h.Ns mainGlobals mg) (hfa : mg "law" = some (.ref fa))
    {od_law_drawn an_law_drawn : Option Addr} {sl_law_drawn : Array (Option Value)} {oc_law_drawn kV_law_drawn dc_law_drawn pm_law_drawn cd_law_drawn ct_law_drawn : Value}
    {od_is_whole an_is_whole : Option Addr} {sl_is_whole : Array (Option Value)} {oc_is_whole kV_is_whole dc_is_whole pm_is_whole cd_is_whole ct_is_whole : Value}
    {od_is_within an_is_within : Option Addr} {sl_is_within : Array (Option Value)} {oc_is_within kV_is_within dc_is_within pm_is_within cd_is_within ct_is_within : Value}
    {od_need_line an_need_line : Option Addr} {sl_need_line : Array (Option Value)} {oc_need_line kV_need_line dc_need_line pm_need_line cd_need_line ct_need_line : Value}
    {od_need_lines an_need_lines : Option Addr} {sl_need_lines : Array (Option Value)} {oc_need_lines kV_need_lines dc_need_lines pm_need_lines cd_need_lines ct_need_lines : Value}
    {od_need_bound an_need_bound : Option Addr} {sl_need_bound : Array (Option Value)} {oc_need_bound kV_need_bound dc_need_bound pm_need_bound cd_need_bound ct_need_bound : Value}
    {od_Kept_init an_Kept_init : Option Addr} {sl_Kept_init : Array (Option Value)} {oc_Kept_init kV_Kept_init dc_Kept_init pm_Kept_init cd_Kept_init ct_Kept_init : Value}
    {od_Kept_touch an_Kept_touch : Option Addr} {sl_Kept_touch : Array (Option Value)} {oc_Kept_touch kV_Kept_touch dc_Kept_touch pm_Kept_touch cd_Kept_touch ct_Kept_touch : Value}
    {od_law_whole an_law_whole : Option Addr} {sl_law_whole : Array (Option Value)} {oc_law_whole kV_law_whole dc_law_whole pm_law_whole cd_law_whole ct_law_whole : Value}
    {od_law_lines an_law_lines : Option Addr} {sl_law_lines : Array (Option Value)} {oc_law_lines kV_law_lines dc_law_lines pm_law_lines cd_law_lines ct_law_lines : Value}
    {od_distances an_distances : Option Addr} {sl_distances : Array (Option Value)} {oc_distances kV_distances dc_distances pm_distances cd_distances ct_distances : Value}
    {od_missed an_missed : Option Addr} {sl_missed : Array (Option Value)} {oc_missed kV_missed dc_missed pm_missed cd_missed ct_missed : Value}
    {od_counts an_counts : Option Addr} {sl_counts : Array (Option Value)} {oc_counts kV_counts dc_counts pm_counts cd_counts ct_counts : Value}
    {od_law_far an_law_far : Option Addr} {sl_law_far : Array (Option Value)} {oc_law_far kV_law_far dc_law_far pm_law_far cd_law_far ct_law_far : Value}
    {od_law_gone_through an_law_gone_through : Option Addr} {sl_law_gone_through : Array (Option Value)} {oc_law_gone_through kV_law_gone_through dc_law_gone_through pm_law_gone_through cd_law_gone_through ct_law_gone_through : Value}
    {od_law_counted an_law_counted : Option Addr} {sl_law_counted : Array (Option Value)} {oc_law_counted kV_law_counted dc_law_counted pm_law_counted cd_law_counted ct_law_counted : Value}
    {od_law an_law : Option Addr} {sl_law : Array (Option Value)} {oc_law kV_law dc_law pm_law cd_law ct_law : Value}
    (aC_Kept : PySem.W.nsIn K mainGlobals "Kept" = some (some (.ref C_Kept)))
    (pg_Kept : PySem.W.plainGet K C_Kept Str.empty = true)
    (hd_Kept : PySem.W.hasDictIn K C_Kept = true)
    (po_Kept : PySem.W.plainOver K C_Kept = true)
    (sa_Kept : PySem.W.findIn K (.ref C_Kept) "__setattr__" = some (some (.builtin "object.__setattr__")))
    (mk_Kept : PySem.W.makesIn K C_Kept = true)
    (kc_Kept : PySem.W.keepIn K (.ref C_Kept) = true)
    (nA_Kept_bound : PySem.W.findIn K (.ref C_Kept) "bound" = some none)
    (nA_Kept_had : PySem.W.findIn K (.ref C_Kept) "had" = some none)
    (a_law_drawn : PySem.W.nsIn K mainGlobals "_law_drawn" = some (some (.ref f_law_drawn)))
    (l_law_drawn : K.lookup f_law_drawn = some ⟨oc_law_drawn, od_law_drawn, .func (PySem.W.fnOf "_law_drawn" "_law_drawn" (defArgs s_law_drawn) (defBody s_law_drawn) (defScope s_law_drawn) .none kV_law_drawn dc_law_drawn pm_law_drawn an_law_drawn cd_law_drawn ct_law_drawn), sl_law_drawn⟩)
    (c_law_drawn : PySem.W.codeIn K cd_law_drawn "_law_drawn" = true)
    (k_law_drawn : PySem.W.keepIn K (.ref f_law_drawn) = true)
    (a_is_whole : PySem.W.nsIn K mainGlobals "is_whole" = some (some (.ref f_is_whole)))
    (l_is_whole : K.lookup f_is_whole = some ⟨oc_is_whole, od_is_whole, .func (PySem.W.fnOf "is_whole" "is_whole" (defArgs s_is_whole) (defBody s_is_whole) (defScope s_is_whole) .none kV_is_whole dc_is_whole pm_is_whole an_is_whole cd_is_whole ct_is_whole), sl_is_whole⟩)
    (c_is_whole : PySem.W.codeIn K cd_is_whole "is_whole" = true)
    (k_is_whole : PySem.W.keepIn K (.ref f_is_whole) = true)
    (a_is_within : PySem.W.nsIn K mainGlobals "is_within" = some (some (.ref f_is_within)))
    (l_is_within : K.lookup f_is_within = some ⟨oc_is_within, od_is_within, .func (PySem.W.fnOf "is_within" "is_within" (defArgs s_is_within) (defBody s_is_within) (defScope s_is_within) .none kV_is_within dc_is_within pm_is_within an_is_within cd_is_within ct_is_within), sl_is_within⟩)
    (c_is_within : PySem.W.codeIn K cd_is_within "is_within" = true)
    (k_is_within : PySem.W.keepIn K (.ref f_is_within) = true)
    (a_need_line : PySem.W.nsIn K mainGlobals "need_line" = some (some (.ref f_need_line)))
    (l_need_line : K.lookup f_need_line = some ⟨oc_need_line, od_need_line, .func (PySem.W.fnOf "need_line" "need_line" (defArgs s_need_line) (defBody s_need_line) (defScope s_need_line) .none kV_need_line dc_need_line pm_need_line an_need_line cd_need_line ct_need_line), sl_need_line⟩)
    (c_need_line : PySem.W.codeIn K cd_need_line "need_line" = true)
    (k_need_line : PySem.W.keepIn K (.ref f_need_line) = true)
    (a_need_lines : PySem.W.nsIn K mainGlobals "need_lines" = some (some (.ref f_need_lines)))
    (l_need_lines : K.lookup f_need_lines = some ⟨oc_need_lines, od_need_lines, .func (PySem.W.fnOf "need_lines" "need_lines" (defArgs s_need_lines) (defBody s_need_lines) (defScope s_need_lines) .none kV_need_lines dc_need_lines pm_need_lines an_need_lines cd_need_lines ct_need_lines), sl_need_lines⟩)
    (c_need_lines : PySem.W.codeIn K cd_need_lines "need_lines" = true)
    (k_need_lines : PySem.W.keepIn K (.ref f_need_lines) = true)
    (a_need_bound : PySem.W.nsIn K mainGlobals "need_bound" = some (some (.ref f_need_bound)))
    (l_need_bound : K.lookup f_need_bound = some ⟨oc_need_bound, od_need_bound, .func (PySem.W.fnOf "need_bound" "need_bound" (defArgs s_need_bound) (defBody s_need_bound) (defScope s_need_bound) .none kV_need_bound dc_need_bound pm_need_bound an_need_bound cd_need_bound ct_need_bound), sl_need_bound⟩)
    (c_need_bound : PySem.W.codeIn K cd_need_bound "need_bound" = true)
    (k_need_bound : PySem.W.keepIn K (.ref f_need_bound) = true)
    (a_Kept_init : PySem.W.findIn K (.ref C_Kept) "__init__" = some (some (.ref f_Kept_init)))
    (i_Kept_init : PySem.W.isFn K (.ref f_Kept_init) = true)
    (l_Kept_init : K.lookup f_Kept_init = some ⟨oc_Kept_init, od_Kept_init, .func (PySem.W.fnOf "__init__" "Kept.__init__" (defArgs s_Kept_init) (defBody s_Kept_init) (defScope s_Kept_init) .none kV_Kept_init dc_Kept_init pm_Kept_init an_Kept_init cd_Kept_init ct_Kept_init), sl_Kept_init⟩)
    (c_Kept_init : PySem.W.codeIn K cd_Kept_init "Kept.__init__" = true)
    (k_Kept_init : PySem.W.keepIn K (.ref f_Kept_init) = true)
    (a_Kept_touch : PySem.W.findIn K (.ref C_Kept) "touch" = some (some (.ref f_Kept_touch)))
    (i_Kept_touch : PySem.W.isFn K (.ref f_Kept_touch) = true)
    (l_Kept_touch : K.lookup f_Kept_touch = some ⟨oc_Kept_touch, od_Kept_touch, .func (PySem.W.fnOf "touch" "Kept.touch" (defArgs s_Kept_touch) (defBody s_Kept_touch) (defScope s_Kept_touch) .none kV_Kept_touch dc_Kept_touch pm_Kept_touch an_Kept_touch cd_Kept_touch ct_Kept_touch), sl_Kept_touch⟩)
    (c_Kept_touch : PySem.W.codeIn K cd_Kept_touch "Kept.touch" = true)
    (k_Kept_touch : PySem.W.keepIn K (.ref f_Kept_touch) = true)
    (a_law_whole : PySem.W.nsIn K mainGlobals "_law_whole" = some (some (.ref f_law_whole)))
    (l_law_whole : K.lookup f_law_whole = some ⟨oc_law_whole, od_law_whole, .func (PySem.W.fnOf "_law_whole" "_law_whole" (defArgs s_law_whole) (defBody s_law_whole) (defScope s_law_whole) .none kV_law_whole dc_law_whole pm_law_whole an_law_whole cd_law_whole ct_law_whole), sl_law_whole⟩)
    (c_law_whole : PySem.W.codeIn K cd_law_whole "_law_whole" = true)
    (k_law_whole : PySem.W.keepIn K (.ref f_law_whole) = true)
    (a_law_lines : PySem.W.nsIn K mainGlobals "_law_lines" = some (some (.ref f_law_lines)))
    (l_law_lines : K.lookup f_law_lines = some ⟨oc_law_lines, od_law_lines, .func (PySem.W.fnOf "_law_lines" "_law_lines" (defArgs s_law_lines) (defBody s_law_lines) (defScope s_law_lines) .none kV_law_lines dc_law_lines pm_law_lines an_law_lines cd_law_lines ct_law_lines), sl_law_lines⟩)
    (c_law_lines : PySem.W.codeIn K cd_law_lines "_law_lines" = true)
    (k_law_lines : PySem.W.keepIn K (.ref f_law_lines) = true)
    (a_distances : PySem.W.nsIn K mainGlobals "distances" = some (some (.ref f_distances)))
    (l_distances : K.lookup f_distances = some ⟨oc_distances, od_distances, .func (PySem.W.fnOf "distances" "distances" (defArgs s_distances) (defBody s_distances) (defScope s_distances) .none kV_distances dc_distances pm_distances an_distances cd_distances ct_distances), sl_distances⟩)
    (c_distances : PySem.W.codeIn K cd_distances "distances" = true)
    (k_distances : PySem.W.keepIn K (.ref f_distances) = true)
    (a_missed : PySem.W.nsIn K mainGlobals "missed" = some (some (.ref f_missed)))
    (l_missed : K.lookup f_missed = some ⟨oc_missed, od_missed, .func (PySem.W.fnOf "missed" "missed" (defArgs s_missed) (defBody s_missed) (defScope s_missed) .none kV_missed dc_missed pm_missed an_missed cd_missed ct_missed), sl_missed⟩)
    (c_missed : PySem.W.codeIn K cd_missed "missed" = true)
    (k_missed : PySem.W.keepIn K (.ref f_missed) = true)
    (a_counts : PySem.W.nsIn K mainGlobals "counts" = some (some (.ref f_counts)))
    (l_counts : K.lookup f_counts = some ⟨oc_counts, od_counts, .func (PySem.W.fnOf "counts" "counts" (defArgs s_counts) (defBody s_counts) (defScope s_counts) .none kV_counts dc_counts pm_counts an_counts cd_counts ct_counts), sl_counts⟩)
    (c_counts : PySem.W.codeIn K cd_counts "counts" = true)
    (k_counts : PySem.W.keepIn K (.ref f_counts) = true)
    (a_law_far : PySem.W.nsIn K mainGlobals "_law_far" = some (some (.ref f_law_far)))
    (l_law_far : K.lookup f_law_far = some ⟨oc_law_far, od_law_far, .func (PySem.W.fnOf "_law_far" "_law_far" (defArgs s_law_far) (defBody s_law_far) (defScope s_law_far) .none kV_law_far dc_law_far pm_law_far an_law_far cd_law_far ct_law_far), sl_law_far⟩)
    (c_law_far : PySem.W.codeIn K cd_law_far "_law_far" = true)
    (k_law_far : PySem.W.keepIn K (.ref f_law_far) = true)
    (a_law_gone_through : PySem.W.nsIn K mainGlobals "_law_gone_through" = some (some (.ref f_law_gone_through)))
    (l_law_gone_through : K.lookup f_law_gone_through = some ⟨oc_law_gone_through, od_law_gone_through, .func (PySem.W.fnOf "_law_gone_through" "_law_gone_through" (defArgs s_law_gone_through) (defBody s_law_gone_through) (defScope s_law_gone_through) .none kV_law_gone_through dc_law_gone_through pm_law_gone_through an_law_gone_through cd_law_gone_through ct_law_gone_through), sl_law_gone_through⟩)
    (c_law_gone_through : PySem.W.codeIn K cd_law_gone_through "_law_gone_through" = true)
    (k_law_gone_through : PySem.W.keepIn K (.ref f_law_gone_through) = true)
    (a_law_counted : PySem.W.nsIn K mainGlobals "_law_counted" = some (some (.ref f_law_counted)))
    (l_law_counted : K.lookup f_law_counted = some ⟨oc_law_counted, od_law_counted, .func (PySem.W.fnOf "_law_counted" "_law_counted" (defArgs s_law_counted) (defBody s_law_counted) (defScope s_law_counted) .none kV_law_counted dc_law_counted pm_law_counted an_law_counted cd_law_counted ct_law_counted), sl_law_counted⟩)
    (c_law_counted : PySem.W.codeIn K cd_law_counted "_law_counted" = true)
    (k_law_counted : PySem.W.keepIn K (.ref f_law_counted) = true)
    (a_law : PySem.W.nsIn K mainGlobals "law" = some (some (.ref f_law)))
    (l_law : K.lookup f_law = some ⟨oc_law, od_law, .func (PySem.W.fnOf "law" "law" (defArgs s_law) (defBody s_law) (defScope s_law) .none kV_law dc_law pm_law an_law cd_law ct_law), sl_law⟩)
    (c_law : PySem.W.codeIn K cd_law "law" = true)
    (k_law : PySem.W.keepIn K (.ref f_law) = true)
    (n_bool : PySem.W.nsIn K mainGlobals "bool" = some none)
    (n_int : PySem.W.nsIn K mainGlobals "int" = some none)
    (n_isinstance : PySem.W.nsIn K mainGlobals "isinstance" = some none)
    (n_len : PySem.W.nsIn K mainGlobals "len" = some none)
    (n_list : PySem.W.nsIn K mainGlobals "list" = some none)
    (n_range : PySem.W.nsIn K mainGlobals "range" = some none)
    (n_set : PySem.W.nsIn K mainGlobals "set" = some none)
    {t_MOST_KEPT : Tok} (q_MOST_KEPT : PySem.W.nsIn K mainGlobals "MOST_KEPT" = some (some (.int 32 t_MOST_KEPT)))
    : ∃ fd : FuncData, (∀ (s : Shared) (v : Value), BindsTo s fd ⟨[v], []⟩ [("_law_script", v)]) ∧ ∀ base : Heap, K.In base → base.Ns mainGlobals mg → FnOk l.prog w K mg base CX0 8 fa fd ["_law_script"] (spLaw K) := by
  have e := hfa.symm.trans (PySem.W.mg_of X G a_law)
  cases e
  have F_law_drawn := fun_mk (st := s_law_drawn) l_law_drawn c_law_drawn k_law_drawn
  have F_is_whole := fun_mk (st := s_is_whole) l_is_whole c_is_whole k_is_whole
  have F_is_within := fun_mk (st := s_is_within) l_is_within c_is_within k_is_within
  have F_need_line := fun_mk (st := s_need_line) l_need_line c_need_line k_need_line
  have F_need_lines := fun_mk (st := s_need_lines) l_need_lines c_need_lines k_need_lines
  have F_need_bound := fun_mk (st := s_need_bound) l_need_bound c_need_bound k_need_bound
  have F_Kept_init := fun_mk (st := s_Kept_init) l_Kept_init c_Kept_init k_Kept_init
  have F_Kept_touch := fun_mk (st := s_Kept_touch) l_Kept_touch c_Kept_touch k_Kept_touch
  have F_law_whole := fun_mk (st := s_law_whole) l_law_whole c_law_whole k_law_whole
  have F_law_lines := fun_mk (st := s_law_lines) l_law_lines c_law_lines k_law_lines
  have F_distances := fun_mk (st := s_distances) l_distances c_distances k_distances
  have F_missed := fun_mk (st := s_missed) l_missed c_missed k_missed
  have F_counts := fun_mk (st := s_counts) l_counts c_counts k_counts
  have F_law_far := fun_mk (st := s_law_far) l_law_far c_law_far k_law_far
  have F_law_gone_through := fun_mk (st := s_law_gone_through) l_law_gone_through c_law_gone_through k_law_gone_through
  have F_law_counted := fun_mk (st := s_law_counted) l_law_counted c_law_counted k_law_counted
  have F_law := fun_mk (st := s_law) l_law c_law k_law
  have c_MOST_KEPT : ∃ t, mg "MOST_KEPT" = some (.int 32 t) := ⟨_, PySem.W.mg_of X G q_MOST_KEPT⟩
  have z_bool : mg "bool" = none := PySem.W.mg_none_of X G n_bool
  have z_int : mg "int" = none := PySem.W.mg_none_of X G n_int
  have z_isinstance : mg "isinstance" = none := PySem.W.mg_none_of X G n_isinstance
  have z_len : mg "len" = none := PySem.W.mg_none_of X G n_len
  have z_list : mg "list" = none := PySem.W.mg_none_of X G n_list
  have z_range : mg "range" = none := PySem.W.mg_none_of X G n_range
  have z_set : mg "set" = none := PySem.W.mg_none_of X G n_set
  have K_Kept : Cls K C_Kept := ⟨pg_Kept, hd_Kept, po_Kept, sa_Kept⟩
  have A_Kept_bound : NoAttr K C_Kept "bound" := nA_Kept_bound
  have A_Kept_had : NoAttr K C_Kept "had" := nA_Kept_had
  refine ⟨PySem.W.fnOf "law" "law" (defArgs s_law) (defBody s_law) (defScope s_law) .none kV_law dc_law pm_law an_law cd_law ct_law, fun s v => .of_eq rfl, fun base _ _ => ?_⟩
  have D_law_drawn : Dn l.prog w K mg base CX0 1 "_law_drawn" ["_law_cell", "_law_sizes"] (spDrawn K) := ⟨⟨_, _, ok_drawn F_law_drawn, PySem.W.mg_of X G a_law_drawn, k_law_drawn, F_law_drawn.binds (ps := ["_law_cell", "_law_sizes"]) fun _ _ _ _ _ _ us hl => match us, hl with | [_, _], _ => rfl⟩⟩
  have D_is_whole : Dn l.prog w K mg base CX0 1 "is_whole" ["thing"] (spIsWhole K) := ⟨⟨_, _, ok_isWhole F_is_whole z_isinstance z_int z_bool, PySem.W.mg_of X G a_is_whole, k_is_whole, F_is_whole.binds (ps := ["thing"]) fun _ _ _ _ _ _ us hl => match us, hl with | [_], _ => rfl⟩⟩
  have D_is_within : Dn l.prog w K mg base CX0 2 "is_within" ["thing", "low", "high"] (spIsWithin K) := ⟨⟨_, _, ok_isWithin F_is_within D_is_whole, PySem.W.mg_of X G a_is_within, k_is_within, F_is_within.binds (ps := ["thing", "low", "high"]) fun _ _ _ _ _ _ us hl => match us, hl with | [_, _, _], _ => rfl⟩⟩
  have D_need_line : Dn l.prog w K mg base CX0 2 "need_line" ["line"] spNeedLine := ⟨⟨_, _, ok_needLine F_need_line D_is_whole, PySem.W.mg_of X G a_need_line, k_need_line, F_need_line.binds (ps := ["line"]) fun _ _ _ _ _ _ us hl => match us, hl with | [_], _ => rfl⟩⟩
  have D_need_lines : Dn l.prog w K mg base CX0 3 "need_lines" ["lines"] (spNeedLines K) := ⟨⟨_, _, ok_needLines F_need_lines D_need_line, PySem.W.mg_of X G a_need_lines, k_need_lines, F_need_lines.binds (ps := ["lines"]) fun _ _ _ _ _ _ us hl => match us, hl with | [_], _ => rfl⟩⟩
  have D_need_bound : Dn l.prog w K mg base CX0 3 "need_bound" ["most"] spNeedBound := ⟨⟨_, _, ok_needBound F_need_bound c_MOST_KEPT D_is_within, PySem.W.mg_of X G a_need_bound, k_need_bound, F_need_bound.binds (ps := ["most"]) fun _ _ _ _ _ _ us hl => match us, hl with | [_], _ => rfl⟩⟩
  have M_Kept : Mn l.prog w K mg base CX0 4 C_Kept "Kept" ["self", "most"] (spKInit C_Kept) := ⟨⟨_, _, ⟨mk_Kept, a_Kept_init, i_Kept_init, kc_Kept⟩, ok_kInit F_Kept_init K_Kept A_Kept_bound A_Kept_had D_need_bound, PySem.W.mg_of X G aC_Kept, F_Kept_init.binds (ps := ["self", "most"]) fun _ _ _ _ _ _ us hl => match us, hl with | [_, _], _ => rfl⟩⟩
  have N_Kept_touch : Nn l.prog w K mg base CX0 3 C_Kept "touch" ["self", "line"] (spTouch C_Kept) := ⟨K_Kept, ⟨_, _, ⟨a_Kept_touch, i_Kept_touch, k_Kept_touch⟩, ok_touch F_Kept_touch z_len K_Kept A_Kept_bound A_Kept_had D_need_line, F_Kept_touch.binds (ps := ["self", "line"]) fun _ _ _ _ _ _ us hl => match us, hl with | [_, _], _ => rfl⟩⟩
  have D_law_whole : Dn l.prog w K mg base CX0 1 "_law_whole" ["_law_found"] (spLWhole K) := ⟨⟨_, _, ok_lwhole F_law_whole z_isinstance z_int z_bool, PySem.W.mg_of X G a_law_whole, k_law_whole, F_law_whole.binds (ps := ["_law_found"]) fun _ _ _ _ _ _ us hl => match us, hl with | [_], _ => rfl⟩⟩
  have D_law_lines : Dn l.prog w K mg base CX0 2 "_law_lines" ["_law_script"] (spLines K) := ⟨⟨_, _, ok_lines F_law_lines z_len z_range D_law_drawn, PySem.W.mg_of X G a_law_lines, k_law_lines, F_law_lines.binds (ps := ["_law_script"]) fun _ _ _ _ _ _ us hl => match us, hl with | [_], _ => rfl⟩⟩
  have D_distances : Dn l.prog w K mg base CX0 4 "distances" ["lines"] (spDist K) := ⟨⟨_, _, ok_distances F_distances D_need_lines, PySem.W.mg_of X G a_distances, k_distances, F_distances.binds (ps := ["lines"]) fun _ _ _ _ _ _ us hl => match us, hl with | [_], _ => rfl⟩⟩
  have D_missed : Dn l.prog w K mg base CX0 1 "missed" ["found", "bound"] (spMissed K) := ⟨⟨_, _, ok_missed F_missed z_len, PySem.W.mg_of X G a_missed, k_missed, F_missed.binds (ps := ["found", "bound"]) fun _ _ _ _ _ _ us hl => match us, hl with | [_, _], _ => rfl⟩⟩
  have D_counts : Dn l.prog w K mg base CX0 5 "counts" ["lines", "most"] (spCounts K) := ⟨⟨_, _, ok_counts F_counts z_range D_distances D_need_bound D_missed, PySem.W.mg_of X G a_counts, k_counts, F_counts.binds (ps := ["lines", "most"]) fun _ _ _ _ _ _ us hl => match us, hl with | [_, _], _ => rfl⟩⟩
  have D_law_far : Dn l.prog w K mg base CX0 1 "_law_far" ["_law_lines_here", "_law_k"] (spFar K) := ⟨⟨_, _, ok_far F_law_far z_len z_set, PySem.W.mg_of X G a_law_far, k_law_far, F_law_far.binds (ps := ["_law_lines_here", "_law_k"]) fun _ _ _ _ _ _ us hl => match us, hl with | [_, _], _ => rfl⟩⟩
  have D_law_gone_through : Dn l.prog w K mg base CX0 6 "_law_gone_through" ["_law_lines_here", "_law_most", "_law_due"] (spGone K) := ⟨⟨_, _, ok_gone F_law_gone_through z_len z_int z_range K_Kept M_Kept N_Kept_touch, PySem.W.mg_of X G a_law_gone_through, k_law_gone_through, F_law_gone_through.binds (ps := ["_law_lines_here", "_law_most", "_law_due"]) fun _ _ _ _ _ _ us hl => match us, hl with | [_, _, _], _ => rfl⟩⟩
  have D_law_counted : Dn l.prog w K mg base CX0 7 "_law_counted" ["_law_lines_here", "_law_most", "_law_due", "_law_told"] (spCounted K) := ⟨⟨_, _, ok_counted F_law_counted z_len z_isinstance z_list z_range D_law_whole D_law_gone_through, PySem.W.mg_of X G a_law_counted, k_law_counted, F_law_counted.binds (ps := ["_law_lines_here", "_law_most", "_law_due", "_law_told"]) fun _ _ _ _ _ _ us hl => match us, hl with | [_, _, _, _], _ => rfl⟩⟩
  exact ok_law F_law z_len z_list z_isinstance z_range D_law_drawn D_law_lines D_law_far D_law_whole D_law_counted D_distances D_counts
end K50
open PySem PySem.W PyProof.Rows
set_option maxHeartbeats 0 in
theorem PySem.Challenge.cw_roomslaid_k50_whole_distances_holds : PySem.Challenge.rw_roomslaid_k50_whole_distances.Holds := by
  w_on; o_law; k_head; (case hw => w_witness2)
  k_fill
  refine L2.walk_of (l := PySem.Challenge.rw_roomslaid_k50_whole_distances) (n := 63) (k := 8) (x := "_law_script") (CX := fun _ => L2.CX0) (sp := fun w => K50.spLaw _) rfl (by decide) rfl ⟨rfl, by decide, by decide⟩ (fun w h Y => PySem.W.kIn_of Y) ?F (fun _ _ a ns hl _ hS => ⟨a, ns, rfl, hS, hl, fun _ => rfl⟩) (fun _ _ _ _ _ h => h)
  case F =>
    intro w mg fa h KX G hmg
    refine' K50.all_mk KX G hmg ?aC_Kept ?pg_Kept ?hd_Kept ?po_Kept ?sa_Kept ?mk_Kept ?kc_Kept ?nA_Kept_bound ?nA_Kept_had ?a_law_drawn ?l_law_drawn ?c_law_drawn ?k_law_drawn ?a_is_whole ?l_is_whole ?c_is_whole ?k_is_whole ?a_is_within ?l_is_within ?c_is_within ?k_is_within ?a_need_line ?l_need_line ?c_need_line ?k_need_line ?a_need_lines ?l_need_lines ?c_need_lines ?k_need_lines ?a_need_bound ?l_need_bound ?c_need_bound ?k_need_bound ?a_Kept_init ?i_Kept_init ?l_Kept_init ?c_Kept_init ?k_Kept_init ?a_Kept_touch ?i_Kept_touch ?l_Kept_touch ?c_Kept_touch ?k_Kept_touch ?a_law_whole ?l_law_whole ?c_law_whole ?k_law_whole ?a_law_lines ?l_law_lines ?c_law_lines ?k_law_lines ?a_distances ?l_distances ?c_distances ?k_distances ?a_missed ?l_missed ?c_missed ?k_missed ?a_counts ?l_counts ?c_counts ?k_counts ?a_law_far ?l_law_far ?c_law_far ?k_law_far ?a_law_gone_through ?l_law_gone_through ?c_law_gone_through ?k_law_gone_through ?a_law_counted ?l_law_counted ?c_law_counted ?k_law_counted ?a_law ?l_law ?c_law ?k_law ?n_bool ?n_int ?n_isinstance ?n_len ?n_list ?n_range ?n_set ?q_MOST_KEPT
    (case aC_Kept => k_is)
    (case pg_Kept => k_is)
    (case hd_Kept => k_is)
    (case po_Kept => k_is)
    (case sa_Kept => k_is)
    (case mk_Kept => k_is)
    (case kc_Kept => k_is)
    (case nA_Kept_bound => k_is)
    (case nA_Kept_had => k_is)
    (case a_law_drawn => k_is)
    (case l_law_drawn => k_is)
    (case c_law_drawn => k_is)
    (case k_law_drawn => k_is)
    (case a_is_whole => k_is)
    (case l_is_whole => k_is)
    (case c_is_whole => k_is)
    (case k_is_whole => k_is)
    (case a_is_within => k_is)
    (case l_is_within => k_is)
    (case c_is_within => k_is)
    (case k_is_within => k_is)
    (case a_need_line => k_is)
    (case l_need_line => k_is)
    (case c_need_line => k_is)
    (case k_need_line => k_is)
    (case a_need_lines => k_is)
    (case l_need_lines => k_is)
    (case c_need_lines => k_is)
    (case k_need_lines => k_is)
    (case a_need_bound => k_is)
    (case l_need_bound => k_is)
    (case c_need_bound => k_is)
    (case k_need_bound => k_is)
    (case a_Kept_init => k_is)
    (case i_Kept_init => k_is)
    (case l_Kept_init => k_is)
    (case c_Kept_init => k_is)
    (case k_Kept_init => k_is)
    (case a_Kept_touch => k_is)
    (case i_Kept_touch => k_is)
    (case l_Kept_touch => k_is)
    (case c_Kept_touch => k_is)
    (case k_Kept_touch => k_is)
    (case a_law_whole => k_is)
    (case l_law_whole => k_is)
    (case c_law_whole => k_is)
    (case k_law_whole => k_is)
    (case a_law_lines => k_is)
    (case l_law_lines => k_is)
    (case c_law_lines => k_is)
    (case k_law_lines => k_is)
    (case a_distances => k_is)
    (case l_distances => k_is)
    (case c_distances => k_is)
    (case k_distances => k_is)
    (case a_missed => k_is)
    (case l_missed => k_is)
    (case c_missed => k_is)
    (case k_missed => k_is)
    (case a_counts => k_is)
    (case l_counts => k_is)
    (case c_counts => k_is)
    (case k_counts => k_is)
    (case a_law_far => k_is)
    (case l_law_far => k_is)
    (case c_law_far => k_is)
    (case k_law_far => k_is)
    (case a_law_gone_through => k_is)
    (case l_law_gone_through => k_is)
    (case c_law_gone_through => k_is)
    (case k_law_gone_through => k_is)
    (case a_law_counted => k_is)
    (case l_law_counted => k_is)
    (case c_law_counted => k_is)
    (case k_law_counted => k_is)
    (case a_law => k_is)
    (case l_law => k_is)
    (case c_law => k_is)
    (case k_law => k_is)
    (case n_bool => k_is)
    (case n_int => k_is)
    (case n_isinstance => k_is)
    (case n_len => k_is)
    (case n_list => k_is)
    (case n_range => k_is)
    (case n_set => k_is)
    (case q_MOST_KEPT => k_is)
