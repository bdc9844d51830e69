import PyProof.Rows.All
import Wide.All
import OpenK.AllK
import Wide.FinOn
import HandS.ForMost
import HandS.NoneIn
import HandS.IsInst
import HandS.Wide
import HandS.WideBits
import HandS.More
import HandS.SetFor
import PyProof.LongRange
import HandS.Zip
import HandS.Style
import HandS.Text
import PySem.Challenge.RW_roomslaid_k51_fetches_forged
set_option Elab.async false
set_option linter.all false
set_option maxRecDepth 100000
set_option maxHeartbeats 4000000
/-! my base: short calls, heaps, readings by simp -/
namespace Rb
open PySem PySem.Spec PyProof.Rows L2

/-! ### a def of the text with its promise -/
structure Dn (P : Program) (w : World) (K : PySem.W.Frag) (mg : Str → Option Value) (base : Heap) (CX : CXT) (k : Nat) (x : Str) (ps : List Str) (sp : Sp) : Prop where
  ex : ∃ f fd, FnOk P w K mg base CX k f fd ps sp ∧ mg x = some (.ref f) ∧ PySem.W.keepIn K (.ref f) = true ∧ Binds K fd ps []
section
variable {X : Cx} {CX : CXT} {k : Nat} {ps : List Str} {sp : Sp} {E : XK} {x : Str} {p pos : Pos} {e : Expr} {es : List Expr} {t : TA}
theorem pe_cd (D : Dn X.prog X.w X.K X.mg X.base CX k x ps sp) (hr : Room k X.A) (hg : Gl X x) (hx : Passes CX X E) (ha : PA X (e :: es) t)
    (hdb : (x == ("__debug__" : Str)) = false := by decide) (he : starEach (e :: es) X.env = (false, eval e X.env) :: starEach es X.env := by rfl) (hpl : (backTo pos (starEach es X.env)).any (·.1) = false := by rfl) :
    PE X (.Call (.Name x p) (e :: es) [] pos) (tCall sp [] E t) := by
  obtain ⟨f, fd, F, m, kp, b⟩ := D.ex
  exact pe_call F hr hg m kp b .nil hx ha hdb he hpl
theorem pe_cd0 (D : Dn X.prog X.w X.K X.mg X.base CX k x ps sp) (hr : Room k X.A) (hg : Gl X x) (hx : Passes CX X E)
    (hdb : (x == ("__debug__" : Str)) = false := by decide) : PE X (.Call (.Name x p) [] [] pos) (tCall sp [] E tNil) := by
  obtain ⟨f, fd, F, m, kp, b⟩ := D.ex
  exact pe_call0 F hr hg m kp b .nil hx hdb
end

/-! ### heaps -/
/-- all but a is as it was -/
def Off (a : Addr) (H H' : Hp) : Prop := ∀ b o, b ≠ a → H b = some o → H' b = some o
theorem Off.refl {a : Addr} (H : Hp) : Off a H H := fun _ _ _ h => h
theorem Off.trans {a : Addr} {H H1 H2 : Hp} (p : Off a H H1) (q : Off a H1 H2) : Off a H H2 := fun b o n h => q b o n (p b o n h)
theorem Off.of {a : Addr} {H H' : Hp} (s : Same H H') : Off a H H' := fun b o _ h => s b o h
theorem Off.upd {a : Addr} {H : Hp} {o : HO} : Off a H (upd H a o) := fun b u n h => by rw [upd_ne n]; exact h
theorem Off.at {a b : Addr} {H H' : Hp} {o u : HO} (f : Off a H H') (h : H b = some o) (ha : H a = some u) (ne : o ≠ u) : H' b = some o := f b o (ne_of h ha ne) h
theorem same_new {H : Hp} {p : Addr} {o : HO} (h : H p = none) : Same H (upd H p o) := fun b u e => by rw [upd_ne (ne_of_none e h)]; exact e
/-- a new object: its place, the heap from then on -/
theorem new_intro {H : Hp} {o : HO} {Q : VK} (h : ∀ p H1, H p = none → Same H H1 → H1 p = some o → Q (.ref p) H1) : ∀ p, H p = none → Q (.ref p) (upd H p o) := fun p hp => h p _ hp (same_new hp) upd_same
theorem Same.rd {H H' : Hp} {a : Addr} {u : HO} (s : Same H H') (h : Rd H a u) : Rd H' a u := by
  rcases h with h | ⟨o, h⟩
  · exact .inl (s _ _ h)
  · exact .inr ⟨o, s _ _ h⟩
theorem Same.seqT {K : PySem.W.Frag} {H H' : Hp} {a : Addr} {xs : List V} (e : Same H H') (h : SqT K H a xs) : SqT K H' a xs := by
  rcases h with h | h
  · exact .inl (Same.rd e h)
  · exact .inr h
theorem seq_of {K : PySem.W.Frag} {H : Hp} {a : Addr} {xs : List V} (h : H a = some (.lst xs)) : SqL K H a xs := .inl (.inl h)
theorem seqT_of {K : PySem.W.Frag} {H : Hp} {a : Addr} {xs : List V} (h : H a = some (.tup xs)) : SqT K H a xs := .inl (.inl h)
theorem Off.seq {K : PySem.W.Frag} {a b : Addr} {H H' : Hp} {xs ys : List V} (f : Off a H H') (h : SqL K H b xs) (ha : H a = some (.lst ys)) (hb : b ≠ a) : SqL K H' b xs := by
  rcases h with (h | ⟨o, h⟩) | h
  · exact .inl (.inl (f _ _ hb h))
  · exact .inl (.inr ⟨o, f _ _ hb h⟩)
  · exact .inr h
theorem Off.frz {a b : Addr} {H H' : Hp} {o : Obj} {u : HO} {ys : List V} (f : Off a H H') (h : H b = some (.frz o u)) (ha : H a = some (.lst ys)) : H' b = some (.frz o u) := f.at h ha (by intro z; cases z)
/-- made since H, changed as one likes -/
theorem Same.mut {H H' : Hp} {p : Addr} {o : HO} (s : Same H H') (h : H p = none) : Same H (upd H' p o) := fun b u e => by rw [upd_ne (ne_of_none e h)]; exact s b u e
theorem Same.off {a : Addr} {H H1 H2 : Hp} (s : Same H H1) (h : H a = none) (f : Off a H1 H2) : Same H H2 := fun b u e => f b u (ne_of_none e h) (s b u e)
theorem none_back {H H' : Hp} {p : Addr} (s : Same H H') (h : H' p = none) : H p = none := s.free h
theorem Off.none {a p : Addr} {H H' : Hp} {u : HO} (f : Off a H H') (ha : H a = some u) (ha' : H' p = Option.none) (h' : ∃ o, H' a = some o) : H p = Option.none := by
  cases q : H p with
  | none => rfl
  | some o =>
    by_cases e : p = a
    · subst e
      obtain ⟨o', h'⟩ := h'
      rw [h'] at ha'; cases ha'
    · rw [f p o e q] at ha'; cases ha'
/-! ### what comes new, what is changed: told by letters -/
def New (H : Hp) (o : HO) (R : Addr → Hp → Prop) : Prop := ∀ p, H p = none → R p (upd H p o)
theorem New.intro {H : Hp} {o : HO} {R : Addr → Hp → Prop} (h : ∀ p H2, H p = none → Same H H2 → H2 p = some o → R p H2) : New H o R := fun p hp => h p _ hp (same_new hp) upd_same
def Upd (H : Hp) (a : Addr) (o : HO) (R : Hp → Prop) : Prop := R (upd H a o)
theorem Upd.intro {H : Hp} {a : Addr} {o : HO} {R : Hp → Prop} (h : ∀ H2, Off a H H2 → H2 a = some o → R H2) : Upd H a o R := h _ Off.upd upd_same
def Loop (J : It) (g : TG) (tb : TS) (D : Ends) (σ : L2.St) (H : Hp) : Prop := ∃ W : Nat → Nat → L2.St → Hp → Prop, (∃ m, W 0 m σ H) ∧ ∀ i m σ H, W i m σ H →
  (J.stop i H ∧ D.nx σ H) ∨ (J.go i H ∧ ∃ N : L2.St → Hp → Prop, (∀ σ' H', N σ' H' → ∃ m', m' < m ∧ W (i + 1) m' σ' H') ∧ ∀ x H', J.yld i H x H' → g x σ H' fun σ2 H2 => tb { D with nx := N, ct := N, bk := D.nx } σ2 H2)
def Cmp (J : It) (g : TG) (tt : TT) (te : TE) (vs : List Nat) (σ : L2.St) (H1 : Hp) (Q : VK) : Prop := ∀ D, H1 D = none → ∃ W : Nat → Nat → Hp → Prop, (∃ m, W 0 m (upd H1 D (.lst []))) ∧ ∀ i m H, W i m H →
  (J.stop i H ∧ Q (.ref D) H) ∨ (J.go i H ∧ ∃ Nx : Hp → Prop, (∀ H', Nx H' → ∃ m', m' < m ∧ W (i + 1) m' H') ∧ ∀ x H', J.yld i H x H' → g x (wipe σ vs) H' fun σ2 H2 => wipe σ2 vs = wipe σ vs ∧ tt σ2 H2 fun b H3 =>
    if b = true then te σ2 H3 fun y H4 => ∃ acc, H4 D = some (.lst acc) ∧ acc.length < sizeLine ∧ Nx (upd H4 D (.lst (acc ++ [y]))) else Nx H3)
theorem tTup_n {t : TA} : tTup t = fun σ H Q => t σ H fun xs H1 => xs.length ≤ sizeLine ∧ New H1 (.tup xs) fun p H2 => Q (.ref p) H2 := rfl
theorem tLst_n {t : TA} : tLst t = fun σ H Q => t σ H fun xs H1 => xs.length ≤ sizeLine ∧ New H1 (.lst xs) fun p H2 => Q (.ref p) H2 := rfl
theorem rSlL_n {K : PySem.W.Frag} : rSlL K = fun x lo hi H Q => ∃ a xs, x = .ref a ∧ SqL K H a xs ∧ New H (.lst (cutV xs lo hi)) fun p H2 => Q (.ref p) H2 := rfl
theorem rAppend_n : rAppend = fun x vs H Q => ∃ l xs y, x = .ref l ∧ vs = [y] ∧ H l = some (.lst xs) ∧ xs.length < sizeLine ∧ Upd H l (.lst (xs ++ [y])) fun H2 => Q .non H2 := rfl
theorem rExtend_n : rExtend = fun x vs H Q => ∃ l b xs zs, x = .ref l ∧ vs = [.ref b] ∧ H l = some (.lst xs) ∧ H b = some (.lst zs) ∧ xs.length + zs.length ≤ sizeLine ∧ Upd H l (.lst (xs ++ zs)) fun H2 => Q .non H2 := rfl
theorem rPop_n : rPop = fun x vs H Q => ∃ l xs y, x = .ref l ∧ vs = [] ∧ H l = some (.lst xs) ∧ xs[xs.length - 1]? = some y ∧ Upd H l (.lst xs.dropLast) fun H2 => Q y H2 := rfl
theorem rClear_n : rClear = fun x vs H Q => ∃ l xs, x = .ref l ∧ vs = [] ∧ H l = some (.lst xs) ∧ Upd H l (.lst []) fun H2 => Q .non H2 := rfl
theorem rSetL_n : rSetL = fun o i v H Q => ∃ p xs k j, o = .ref p ∧ i = .int k ∧ H p = some (.lst xs) ∧ ixN xs.length k = some j ∧ Upd H p (.lst (xs.set j v)) fun H2 => Q H2 := rfl
theorem tFor_n {wi : TI} {g : TG} {tb : TS} : tFor wi g tb = fun D σ H => wi σ H fun J H1 => Loop J g tb D σ H1 := rfl
theorem tLc_n {wi : TI} {g : TG} {tt : TT} {te : TE} {vs : List Nat} : tLc wi g tt te vs = fun σ H Q => wi σ H fun J H1 => Cmp J g tt te vs σ H1 Q := rfl
/-! built-ins, by letters -/
def rDivmod : List V → Hp → VK → Prop := fun xs H Q => ∃ i j, xs = [.int i, .int j] ∧ CDiv i j ∧ New H (.tup [.int (i / j), .int (i % j)]) fun p H2 => Q (.ref p) H2
theorem call_divmodR {X : Cx} : CallR X (.builtin "divmod") rDivmod := call_divmod
def rListOf (K : PySem.W.Frag) : List V → Hp → VK → Prop := fun xs H Q => ∃ p ys, xs = [.ref p] ∧ (SqL K H p ys ∨ SqT K H p ys) ∧ New H (.lst ys) fun l H2 => Q (.ref l) H2
theorem call_listR {X : Cx} {K : PySem.W.Frag} (h : X.K = K := by rfl) : CallR X (.type "list") (rListOf K) := by subst h; exact call_list_of
def rTupOf (K : PySem.W.Frag) : List V → Hp → VK → Prop := fun xs H Q => ∃ p ys, xs = [.ref p] ∧ ((SqL K H p ys ∧ New H (.tup ys) fun l H2 => Q (.ref l) H2) ∨ (SqT K H p ys ∧ Q (.ref p) H))
theorem call_tupR {X : Cx} {K : PySem.W.Frag} (h : X.K = K := by rfl) : CallR X (.type "tuple") (rTupOf K) := by subst h; exact call_tuple_of
def rLenSeq (K : PySem.W.Frag) : List V → Hp → VK → Prop := fun xs H Q => ∃ p ys, xs = [.ref p] ∧ (SqL K H p ys ∨ SqT K H p ys) ∧ Q (.int ys.length) H
theorem call_lenR {X : Cx} {K : PySem.W.Frag} (h : X.K = K := by rfl) : CallR X (.builtin "len") (rLenSeq K) := by subst h; exact call_len_seq
def rMin2 : List V → Hp → VK → Prop := fun xs H Q => ∃ i j, xs = [.int i, .int j] ∧ Q (.int (if j < i then j else i)) H
def rMax2 : List V → Hp → VK → Prop := fun xs H Q => ∃ i j, xs = [.int i, .int j] ∧ Q (.int (if j > i then j else i)) H
theorem call_min2R {X : Cx} (hc : X.calm = true) : CallR X (.builtin "min") rMin2 := call_min2 hc
theorem call_max2R {X : Cx} (hc : X.calm = true) : CallR X (.builtin "max") rMax2 := call_max2 hc

theorem snocI {α : Type} {P : List α → Prop} (h0 : P []) (h1 : ∀ xs x, P xs → P (xs ++ [x])) (l : List α) : P l := by
  have h : ∀ r : List α, P r.reverse := fun r => by
    induction r with
    | nil => exact h0
    | cons x r ih =>
      rw [List.reverse_cons]
      exact h1 _ _ ih
  rw [← List.reverse_reverse l]
  exact h _
/-! ### kinds of things -/
def kinds : List String := ["NoneType", "bool", "int", "str", "list", "tuple", "dict"]
def kindIs (T U : String) : Bool := T == U || (T == "bool" && U == "int")
theorem kd_all : ∀ T ∈ kinds, ∀ U ∈ ["bool", "int", "str", "list", "tuple", "dict"], kitB T U = some (kindIs T U) := by decide +kernel
def Thg (K : PySem.W.Frag) (H : Hp) (x : V) (T : String) : Prop := TyX K H x (.type T) ∧ T ∈ kinds
def isWh : V → Bool
  | .int _ => true
  | _ => false
theorem isi {K : PySem.W.Frag} {H : Hp} {x : V} {T U : String} {b : Bool} {R : Bool → Prop} (ty : TyX K H x (.type T)) (h : kitB T U = some b) (q : R b) : ∃ (t u : Value), ClsV (.ty U) u ∧ TyX K H x t ∧ ∃ b', PySem.W.kitOne K t u = some b' ∧ R b' :=
  ⟨_, _, .ty U, ty, b, kit_ty h, q⟩
/-- isinstance of any thing -/
theorem isiT {K : PySem.W.Frag} {H : Hp} {x : V} {T U : String} {R : Bool → Prop} (t : Thg K H x T) (hU : U ∈ ["bool", "int", "str", "list", "tuple", "dict"]) (q : R (kindIs T U)) : ∃ (t u : Value), ClsV (.ty U) u ∧ TyX K H x t ∧ ∃ b', PySem.W.kitOne K t u = some b' ∧ R b' :=
  isi t.1 (kd_all T t.2 U hU) q
theorem thg_int {K : PySem.W.Frag} {H : Hp} {i : Int} : Thg K H (.int i) "int" := ⟨.base (.int i), by decide⟩
theorem thg_bl {K : PySem.W.Frag} {H : Hp} {b : Bool} : Thg K H (.bl b) "bool" := ⟨.base (.bl b), by decide⟩
theorem thg_non {K : PySem.W.Frag} {H : Hp} : Thg K H .non "NoneType" := ⟨.base .non, by decide⟩
theorem thg_str {K : PySem.W.Frag} {H : Hp} {z : Str} : Thg K H (.str z) "str" := ⟨.base (.str z), by decide⟩
theorem thg_lst {K : PySem.W.Frag} {H : Hp} {a : Addr} {xs : List V} (h : H a = some (.lst xs)) : Thg K H (.ref a) "list" := ⟨.base (.lst h), by decide⟩
theorem thg_dK {K : PySem.W.Frag} {H : Hp} {a : Addr} {xs : List (Key × V)} (h : H a = some (.dK xs)) : Thg K H (.ref a) "dict" := ⟨.base (.dK h), by decide⟩
theorem thg_tup {K : PySem.W.Frag} {H : Hp} {a : Addr} {xs : List V} (h : SqT K H a xs) : Thg K H (.ref a) "tuple" := by
  refine ⟨?_, by decide⟩
  rcases h with (h | ⟨o, h⟩) | ⟨o, _, _, h, hc, _⟩
  · exact .base (.tup h)
  · exact .fTuple h
  · exact .kTuple h hc
theorem thg_seq {K : PySem.W.Frag} {H : Hp} {a : Addr} {xs : List V} (h : SqL K H a xs) : Thg K H (.ref a) "list" := by
  refine ⟨?_, by decide⟩
  rcases h with (h | ⟨o, h⟩) | ⟨o, _, _, h, hc, _⟩
  · exact .base (.lst h)
  · exact .base (.frz h)
  · exact .kList h hc
/-- whole numbers and no others are of the kind int alone -/
theorem isWh_of {K : PySem.W.Frag} {H : Hp} {x : V} {T : String} (t : Thg K H x T) : (kindIs T "int" && !kindIs T "bool") = isWh x := by
  obtain ⟨ty, hT⟩ := t
  generalize hc : Value.type T = c at ty
  cases ty with
  | base b =>
    cases b with
    | ins e cl ha hn htk hm => cases hc
    | _ => cases hc; rfl
  | byt b =>
    cases hc
    exact absurd hT (by decide)
  | set e =>
    cases hc
    exact absurd hT (by decide)
  | kList e c => cases hc; rfl
  | kTuple e c => cases hc; rfl
  | kDict e c => cases hc; rfl
  | fTuple e => cases hc; rfl
  | fDict e => cases hc; rfl
/-! ### constants of the module -/
theorem pe_gi {X : Cx} {x : Str} {v : Int} {pos : Pos} (hg : Gl X x) (hm : ∃ t, X.mg x = some (.int v t)) (hd : (x == ("__debug__" : Str)) = false := by decide) : PE X (.Name x pos) (tC (.int v)) := by
  obtain ⟨t, hm⟩ := hm
  exact pe_glob hg hm ⟨t, rfl⟩ hd
theorem pe_gs {X : Cx} {x v : Str} {pos : Pos} (hg : Gl X x) (hm : ∃ t, X.mg x = some (.str v t)) (hd : (x == ("__debug__" : Str)) = false := by decide) : PE X (.Name x pos) (tC (.str v)) := by
  obtain ⟨t, hm⟩ := hm
  exact pe_glob hg hm ⟨t, rfl⟩ hd
/-! ### tuples in a list -/
def Tups (K : PySem.W.Frag) (H : Hp) : List V → List (List V) → Prop := Paired fun x d => ∃ a, x = .ref a ∧ SqT K H a d
theorem Tups.same {K : PySem.W.Frag} {H H' : Hp} {xs : List V} {ds : List (List V)} (t : Tups K H xs ds) (s : Same H H') : Tups K H' xs ds := Paired.mapP t fun x d ⟨a, e, h⟩ => ⟨a, e, Same.seqT s h⟩
theorem Tups.get {K : PySem.W.Frag} {H : Hp} : ∀ {xs : List V} {ds : List (List V)} {i : Nat} {x : V}, Tups K H xs ds → xs[i]? = some x → ∃ a d, ds[i]? = some d ∧ x = .ref a ∧ SqT K H a d
  | _, _, _, _, .nil, e => by simp at e
  | _, _, 0, _, .cons ⟨a, e1, h⟩ _, e => by
    cases e
    exact ⟨a, _, rfl, e1, h⟩
  | _, _, i + 1, x, .cons _ t, e => Tups.get (i := i) t (by simpa using e)
theorem Tups.append {K : PySem.W.Frag} {H : Hp} : ∀ {xs ys : List V} {ds es : List (List V)}, Tups K H xs ds → Tups K H ys es → Tups K H (xs ++ ys) (ds ++ es)
  | _, _, _, _, .nil, s => s
  | _, _, _, _, .cons r t, s => .cons r (Tups.append t s)
theorem Tups.take {K : PySem.W.Frag} {H : Hp} : ∀ {xs : List V} {ds : List (List V)} (n : Nat), Tups K H xs ds → Tups K H (xs.take n) (ds.take n)
  | _, _, 0, _ => .nil
  | _, _, _ + 1, .nil => .nil
  | _, _, n + 1, .cons r t => .cons r (Tups.take n t)
theorem Tups.len {K : PySem.W.Frag} {H : Hp} {xs : List V} {ds : List (List V)} (t : Tups K H xs ds) : xs.length = ds.length := Paired.length t
theorem SqT.off {K : PySem.W.Frag} {H H' : Hp} {D a : Addr} {xs ys : List V} (f : Off D H H') (hD : H D = some (.lst ys)) (h : SqT K H a xs) : SqT K H' a xs := by
  rcases h with (h | ⟨o, h⟩) | h
  · exact .inl (.inl (f.at h hD (by intro z; cases z)))
  · exact .inl (.inr ⟨o, f.at h hD (by intro z; cases z)⟩)
  · exact .inr h
theorem Tups.off {K : PySem.W.Frag} {H H' : Hp} {D : Addr} {xs ys : List V} {ds : List (List V)} (t : Tups K H xs ds) (f : Off D H H') (hD : H D = some (.lst ys)) : Tups K H' xs ds := Paired.mapP t fun x d ⟨a, e, h⟩ => ⟨a, e, SqT.off f hD h⟩
theorem SqL.off {K : PySem.W.Frag} {H H' : Hp} {D a : Addr} {xs : List V} (f : Off D H H') (n : a ≠ D) (h : SqL K H a xs) : SqL K H' a xs := by
  rcases h with (h | ⟨o, h⟩) | h
  · exact .inl (.inl (f _ _ n h))
  · exact .inl (.inr ⟨o, f _ _ n h⟩)
  · exact .inr h
theorem sz100 {n : Nat} (h : n ≤ 100000) : n ≤ sizeLine := Nat.le_trans h (by decide)
theorem sz100l {n : Nat} (h : n < 100000) : n < sizeLine := Nat.lt_of_lt_of_le h (by decide)
theorem head_int (ns : List Int) (m : Int) : ∃ z, atI (ns.map V.int ++ [.int m]) 0 = some (.int z) := by
  cases ns with
  | nil => exact ⟨m, rfl⟩
  | cons z r => exact ⟨z, atI_nat (j := 0) rfl⟩
theorem last_int {l : List Int} {z : Int} (h : l[l.length - 1]? = some z) : atI (l.map V.int) (-1) = some (.int z) := by
  have ne : l ≠ [] := fun e => by
    rw [e] at h
    cases h
  have e1 := List.dropLast_concat_getLast ne
  have e2 : l.getLast ne = z := by
    rw [List.getLast_eq_getElem]
    rw [List.getElem?_eq_getElem (by cases l <;> simp at ne ⊢)] at h
    exact Option.some.inj h
  rw [← e1, List.map_append, e2]
  exact atI_last _ _
/-! ### the rules over a written part that is named: within a comprehension, too -/
section
variable {X : Cx} {K : PySem.W.Frag}
theorem ix_listK (h : X.K = K := by rfl) : IxR X (rIxL K) := by subst h; exact ix_list
theorem ix_tupK (h : X.K = K := by rfl) : IxR X (rIxT K) := by subst h; exact ix_tup
theorem sl_listK (h : X.K = K := by rfl) : SlR X (rSlL K) := by subst h; exact sl_list
theorem sl_tupK (h : X.K = K := by rfl) : SlR X (rSlT K) := by subst h; exact sl_tup
theorem op_in_seqK (h : X.K = K := by rfl) : OpR X (compareOp .In) (rIn K false) := by subst h; exact op_in_seq
theorem op_notIn_seqK (h : X.K = K := by rfl) : OpR X (compareOp .NotIn) (rIn K true) := by subst h; exact op_notIn_seq
theorem op_eqDK (hu : X.A.units + 64 < cLine) (h : X.K = K := by rfl) : OpR X (compareOp .Eq) (rEqD K) := by subst h; exact op_eqD hu
theorem op_neDK (hu : X.A.units + 64 < cLine) (h : X.K = K := by rfl) : OpR X (compareOp .NotEq) (rNeD K) := by subst h; exact op_neD hu
theorem op_catTK (h : X.K = K := by rfl) : OpR X (binaryOp .Add) (rCatT K) := by subst h; exact op_catT
theorem call_isiK' (h : X.K = K := by rfl) : CallR X (.builtin "isinstance") (rIsi K) := by subst h; exact call_isi
theorem call_isiTK (h : X.K = K := by rfl) : CallR X (.builtin "isinstance") (rIsiT K) := by subst h; exact call_isiT
theorem cr_allK (hc : X.calm = true) (h : X.K = K := by rfl) : CallR X (.builtin "all") (rAll K) := by subst h; exact cr_all hc
theorem cr_anyK (hc : X.calm = true) (h : X.K = K := by rfl) : CallR X (.builtin "any") (rAny K) := by subst h; exact cr_any hc
theorem cr_sumK (hc : X.calm = true) (h : X.K = K := by rfl) : CallR X (.builtin "sum") (rSum K) := by subst h; exact cr_sum hc
theorem pi_listK {tg l : Expr} {tl : TE} (hl : PE X l tl) (h : X.K = K := by rfl) : PI X tg l (iList K tl) := by subst h; exact pi_list hl
theorem pi_tupK {tg l : Expr} {tl : TE} (hl : PE X l tl) (h : X.K = K := by rfl) : PI X tg l (iTup K tl) := by subst h; exact pi_tup hl
theorem pi_reversedK {tg e : Expr} {ta : TA} {p pos : Pos} (hg : Gl X "reversed") (hm : X.mg "reversed" = none) (ha : PA X [e] ta) (hs : starEach [e] X.env = [(false, eval e X.env)] := by rfl) (h : X.K = K := by rfl) : PI X tg (.Call (.Name "reversed" p) [e] [] pos) (iRev K ta) := by subst h; exact pi_reversed hg hm ha hs
theorem pe_bm0K {o : Expr} {to : TE} {name : Str} {apos cpos : Pos} {T id : String} {r : V → List V → Hp → VK → Prop} (pa : PlainAttrs T) (slot : Slot T name id) (hty : typeOf (.builtin id) = pure (.type "method_descriptor")) (hm : MtR X id r) (ho : PE X o to)
    (hbase : attributeBase o name X.env (eval o X.env) = eval o X.env := by rfl) (hline : (apos.endLine == cpos.line) = true := by rfl) (h : X.K = K := by rfl) : PE X (.Call (.Attribute o name apos) [] [] cpos) (tBM0 K T r to) := by subst h; exact pe_bm0 pa slot hty hm ho hbase hline
theorem pe_bmK {o e : Expr} {es : List Expr} {to : TE} {t : TA} {name : Str} {apos cpos : Pos} {T id : String} {r : V → List V → Hp → VK → Prop} (pa : PlainAttrs T) (slot : Slot T name id) (hty : typeOf (.builtin id) = pure (.type "method_descriptor")) (hm : MtR X id r) (ho : PE X o to) (ha : PA X (e :: es) t)
    (hbase : attributeBase o name X.env (eval o X.env) = eval o X.env := by rfl)
    (hfew : ((backTo cpos (starEach (e :: es) X.env)).all (fun x => !x.1) && (backToKw cpos (keywordEach [] X.env)).all (fun x => x.1.isSome)
      && decide ((e :: es).length + ([] : List Keyword).length + (if ([] : List Keyword).isEmpty then 0 else 1) < 30)) = true := by rfl)
    (hline : (apos.endLine == cpos.line) = true := by rfl) (hs : starEach (e :: es) X.env = (false, eval e X.env) :: starEach es X.env := by rfl) (hplain : (backTo cpos (starEach es X.env)).any (·.1) = false := by rfl) (h : X.K = K := by rfl) :
    PE X (.Call (.Attribute o name apos) (e :: es) [] cpos) (tBM K T r to t) := by subst h; exact pe_bm pa slot hty hm ho ha hbase hfew hline hs hplain
theorem mt_indexK (h : X.K = K := by rfl) : MtR X "list.index" (rIndex K) := by subst h; exact mt_index
theorem pi_enumK {e : Expr} {ta : TA} {p pos tpos : Pos} {elts : List Expr} {kk : Nat} (hg : Gl X "enumerate") (hm : X.mg "enumerate" = none) (ha : PA X [e] ta) (hs : starEach [e] X.env = [(false, eval e X.env)] := by rfl) (h : X.K = K := by rfl) :
    PI X (.Tuple elts kk tpos) (.Call (.Name "enumerate" p) [e] [] pos) (iEnum K ta) := by subst h; exact pi_enum hg hm ha hs
theorem pi_zipK {e e2 : Expr} {ta : TA} {p pos tpos : Pos} {elts : List Expr} {kk : Nat} (hg : Gl X "zip") (hm : X.mg "zip" = none) (ha : PA X [e, e2] ta)
    (hs : starEach [e, e2] X.env = (false, eval e X.env) :: starEach [e2] X.env := by rfl) (hpl : (backTo pos (starEach [e2] X.env)).any (·.1) = false := by rfl) (h : X.K = K := by rfl) :
    PI X (.Tuple elts kk tpos) (.Call (.Name "zip" p) [e, e2] [] pos) (iZip K ta) := by subst h; exact pi_zip hg hm ha hs hpl
theorem pe_fldK {e : Expr} {f : Str} {pos : Pos} {ta : TE} (he : PE X e ta) (hb : attributeBase e f X.env (eval e X.env) = eval e X.env) (h : X.K = K := by rfl) : PE X (.Attribute e f pos) (tFld K ta f) := by subst h; exact pe_fld he hb
end

/-! ### ranges of ints of any size, walked -/
theorem turn_long {P : Program} {w : World} {K : PySem.W.Frag} {tg : Expr} (it : Addr) (lo : Int) (n : Nat) : Turn P w K tg (Itr lo n) [it] it (fun i h => IsLongIter h it (lo + (i : Nat) * 1) ((n : Int) - (i : Nat)) 1) where
  mem := by simp
  obj := fun i h st b hb => by
    have e : b = it := by simpa using hb
    subst e
    exact ⟨_, st, fun v z => by
      have z' : Data.fields _ = Data.cell v := z
      cases z'⟩
  keep := fun i h h' st k => k it (by simp) _ st
  item := by
    intro X hP hw hK hc i pins s σ H E I hf st hg
    subst hP hw hK
    obtain ⟨f0, f1, f2, f3, f4, f5⟩ := hf it (by simp)
    have W := Walks.longrange (prog := X.prog) (w := X.w) (I.ok.hd hc) it lo 1 n
    refine W.item i s _ _ hg st fun v h' tk hv st' kk => ?_
    obtain ⟨t, rfl⟩ := hv
    have I1 : Inv X pins σ H { s with heap := h', toks := tk } := I.turned (fun b o hb e => kk b o (by simpa using hb) e) f0 f1 f3 f4 f5
    refine ⟨_, rfl, go_of (s := { s with heap := h', toks := tk }) (n := "longrange_iterator") st' rfl rfl (by decide) ⟨.int (lo + i), H, I1, ⟨t, ?_⟩, ⟨rfl, rfl⟩, st', fun b hb => (hf b hb).1⟩⟩
    rw [Int.mul_one]
  done := by
    intro X hP hw hK hc i pins s σ H E I hf st hg
    subst hP hw hK
    obtain ⟨f0, f1, f2, f3, f4, f5⟩ := hf it (by simp)
    exact wpAny_pyNext_long_end (I.ok.hd hc) st (by have : n ≤ i := hg; omega) fun h' eb => ⟨rfl, I.turned (t' := s.toks) (fun b o hb e => eb b o hb e) f0 f1 f3 f4 f5⟩
  self := fun _ _ _ _ _ st h => wpAny_pyIter_longiter st h
theorem range_itL {X : Cx} {tg : Expr} {pins : List (Addr × Obj)} {σ : L2.St} {H : Hp} {s : Shared} {R : It → Hp → Prop} {E : Value → Shared → Prop} {lo hi : Int} {t u v : Tok} {tk : Nat} (I : Inv X pins σ H s)
    (q : R (Itr lo (hi - lo).toNat) H) : wpAny (model X.prog X.w) X.A (pyIter (.ref s.heap.objs.size)) (PIE X pins σ tg R) E { s with heap := s.heap.push { cls := .type "range", data := .fields #[.int lo t, .int hi u, .int 1 v] }, toks := tk } := by
  have I1 : Inv X pins σ H { s with heap := s.heap.push { cls := .type "range", data := .fields #[.int lo t, .int hi u, .int 1 v] }, toks := tk } := I.kept fun b o e => Heap.get?_push_of_some _ e
  have e1 : lo + ((0 : Nat) : Int) * 1 = lo := by simp
  have e2 : (((hi - lo).toNat : Nat) : Int) - ((0 : Nat) : Int) = Builtin.Range.rangeSize lo hi 1 := by rw [rangeSize_one]; split <;> omega
  cases hs : Builtin.Range.small lo hi 1 with
  | true =>
    refine wpAny_pyIter_range (IsRange.new ..) hs ?_
    refine ⟨(s.heap.push { cls := .type "range", data := .fields #[.int lo t, .int hi u, .int 1 v] }).objs.size, [(s.heap.push { cls := .type "range", data := .fields #[.int lo t, .int hi u, .int 1 v] }).objs.size], _, _, H, rfl,
      I1.kept (t' := tk) fun b o e => Heap.get?_push_of_some _ e, turn_range _ lo (hi - lo).toNat, ?_, fun b hb => ?_, q⟩
    · show IsRangeIter _ _ (lo + ((0 : Nat) : Int) * 1) ((((hi - lo).toNat : Nat) : Int) - ((0 : Nat) : Int)) 1
      rw [e1, e2]
      exact Heap.get?_push_size _ rfl
    · have e : b = (s.heap.push { cls := .type "range", data := .fields #[.int lo t, .int hi u, .int 1 v] }).objs.size := by simpa using hb
      subst e
      exact I1.fpOk (Nat.le_refl _) (I1.hok.fresh (Nat.le_refl _))
  | false =>
    refine wpAny_pyIter_longrange (IsRange.new ..) hs ?_
    refine ⟨(s.heap.push { cls := .type "range", data := .fields #[.int lo t, .int hi u, .int 1 v] }).objs.size, [(s.heap.push { cls := .type "range", data := .fields #[.int lo t, .int hi u, .int 1 v] }).objs.size], _, _, H, rfl,
      I1.kept (t' := tk) fun b o e => Heap.get?_push_of_some _ e, turn_long _ lo (hi - lo).toNat, ?_, fun b hb => ?_, q⟩
    · show IsLongIter _ _ (lo + ((0 : Nat) : Int) * 1) ((((hi - lo).toNat : Nat) : Int) - ((0 : Nat) : Int)) 1
      rw [e1, e2]
      exact Heap.get?_push_size _ rfl
    · have e : b = (s.heap.push { cls := .type "range", data := .fields #[.int lo t, .int hi u, .int 1 v] }).objs.size := by simpa using hb
      subst e
      exact I1.fpOk (Nat.le_refl _) (I1.hok.fresh (Nat.le_refl _))
def iRngL1 (ta : TA) : TI := fun σ H R => ta σ H fun vs H1 => ∃ j : Int, vs = [.int j] ∧ R (Itr 0 j.toNat) H1
def iRngL2 (ta : TA) : TI := fun σ H R => ta σ H fun vs H1 => ∃ i j : Int, vs = [.int i, .int j] ∧ R (Itr i (j - i).toNat) H1
theorem pi_rangeL1 {X : Cx} {tg : Expr} {a : Expr} {ta : TA} {p pos : Pos} (hg : Gl X "range") (hm : X.mg "range" = none) (ha : PA X [a] ta) (hs : starEach [a] X.env = [(false, eval a X.env)] := by rfl) : PI X tg (.Call (.Name "range" p) [a] [] pos) (iRngL1 ta) := by
  refine ⟨fun pins s σ H R I h => ?_⟩
  refine Call_ (ld_blt I hg hm boot_range (PyProof.Rows.callWith_type1 (thn (ha.run pos pins s σ H _ I h) fun us s1 ⟨vs, H1, I1, r1, q1⟩ => ?_) hs rfl))
  obtain ⟨j, e, q⟩ := q1
  subst e
  cases r1 with
  | cons r rr =>
    cases rr
    obtain ⟨t, rfl⟩ := r
    exact call_range_1 (range_itL I1 (by simpa using q))
theorem pi_rangeL2 {X : Cx} {tg : Expr} {a b : Expr} {ta : TA} {p pos : Pos} (hg : Gl X "range") (hm : X.mg "range" = none) (ha : PA X [a, b] ta) (hs : starEach [a, b] X.env = [(false, eval a X.env), (false, eval b X.env)] := by rfl) (hs2 : starEach [b] X.env = [(false, eval b X.env)] := by rfl) :
    PI X tg (.Call (.Name "range" p) [a, b] [] pos) (iRngL2 ta) := by
  refine ⟨fun pins s σ H R I h => ?_⟩
  refine Call_ (ld_blt I hg hm boot_range (PyProof.Rows.callWith_type1 (thn (ha.run pos pins s σ H _ I h) fun us s1 ⟨vs, H1, I1, r1, q1⟩ => ?_) (by rw [hs, hs2]) (by rw [hs2]; rfl)))
  obtain ⟨i, j, e, q⟩ := q1
  subst e
  cases r1 with
  | cons r rr =>
    cases rr with
    | cons r' rr =>
      cases rr
      obtain ⟨t, rfl⟩ := r
      obtain ⟨t', rfl⟩ := r'
      exact call_range_2 (range_itL I1 q)
/-! ### objects of own classes -/
structure Mn (P : Program) (w : World) (K : PySem.W.Frag) (mg : Str → Option Value) (base : Heap) (CX : CXT) (k : Nat) (C : Addr) (x : Str) (ps : List Str) (sp : Sp) : Prop where
  ex : ∃ f fd, Mk K C f ∧ FnOk P w K mg base CX k f fd ps sp ∧ mg x = some (.ref C) ∧ Binds K fd ps []
structure Nn (P : Program) (w : World) (K : PySem.W.Frag) (mg : Str → Option Value) (base : Heap) (CX : CXT) (k : Nat) (C : Addr) (m : Str) (ps : List Str) (sp : Sp) : Prop where
  cl : Cls K C
  ex : ∃ f fd, Meth K C m f ∧ FnOk P w K mg base CX k f fd ps sp ∧ Binds K fd ps []
section
variable {X : Cx} {CX : CXT} {k : Nat} {C : Addr} {ps : List Str} {sp : Sp} {E : XK} {x m : Str} {p pos apos : Pos} {e o : Expr} {es : List Expr} {t : TA} {ta : TE}
theorem pe_mk (M : Mn X.prog X.w X.K X.mg X.base CX k C x ps sp) (hr : Room (k + 1) X.A) (hg : Gl X x) (hx : Passes CX X E) (ha : PA X (e :: es) t)
    (hdb : (x == ("__debug__" : Str)) = false := by decide) (he : starEach (e :: es) X.env = (false, eval e X.env) :: starEach es X.env := by rfl) (hpl : (backTo pos (starEach es X.env)).any (·.1) = false := by rfl) :
    PE X (.Call (.Name x p) (e :: es) [] pos) (tMake C sp [] E t) := by
  obtain ⟨f, fd, mk, F, hm, b⟩ := M.ex
  exact pe_make mk F hr hg hm b .nil hx ha hdb he hpl
theorem pe_mk0 (M : Mn X.prog X.w X.K X.mg X.base CX k C x ps sp) (hr : Room (k + 1) X.A) (hg : Gl X x) (hx : Passes CX X E)
    (hdb : (x == ("__debug__" : Str)) = false := by decide) : PE X (.Call (.Name x p) [] [] pos) (tMake C sp [] E tNil) := by
  obtain ⟨f, fd, mk, F, hm, b⟩ := M.ex
  exact pe_make0 mk F hr hg hm b .nil hx hdb
theorem pe_md {pl : Sem Bool} (ho : PE X o ta) (N : Nn X.prog X.w X.K X.mg X.base CX k C m ps sp) (hr : Room k X.A) (hx : Passes CX X E) (ha : PA X (e :: es) t)
    (hst : starEach (e :: es) X.env = (false, eval e X.env) :: starEach es X.env := by rfl) (hpl : (backTo pos (starEach es X.env)).any (·.1) = false := by rfl)
    (ht : eval (.Call (.Attribute o m apos) (e :: es) [] pos) X.env = (do
      let ov ← eval o X.env
      standAt apos.atName
      let (f, first) ← holding [ov] (getMethod ov m pl)
      callWith pos f first (backTo pos (starEach (e :: es) X.env)) (backToKw pos (keywordEach [] X.env))) := by rfl) : PE X (.Call (.Attribute o m apos) (e :: es) [] pos) (tMeth C m sp [] E ta t) := by
  obtain ⟨f, fd, hm, F, b⟩ := N.ex
  exact pe_meth ho N.cl hm F hr b .nil hx ha hst hpl ht
theorem pe_md0 {pl : Sem Bool} (ho : PE X o ta) (N : Nn X.prog X.w X.K X.mg X.base CX k C m ps sp) (hr : Room k X.A) (hx : Passes CX X E)
    (ht : eval (.Call (.Attribute o m apos) [] [] pos) X.env = (do
      let ov ← eval o X.env
      standAt apos.atName
      let (f, first) ← holding [ov] (getMethod ov m pl)
      callWith pos f first (backTo pos (starEach [] X.env)) (backToKw pos (keywordEach [] X.env))) := by rfl) : PE X (.Call (.Attribute o m apos) [] [] pos) (tMeth C m sp [] E ta tNil) := by
  obtain ⟨f, fd, hm, F, b⟩ := N.ex
  exact pe_meth0 ho N.cl hm F hr b .nil hx ht
end
def Made (H : Hp) (C : Addr) (R : Addr → Hp → Prop) : Prop := ∀ x dx, H x = none → H dx = none → dx ≠ x → R x (upd (upd H dx (.own x)) x (.ins C dx []))
theorem Made.intro {H : Hp} {C : Addr} {R : Addr → Hp → Prop} (h : ∀ x dx H2, H x = none → Same H H2 → H2 x = some (.ins C dx []) → R x H2) : Made H C R := fun x dx hx hd ne =>
  h x dx _ hx (fun b o e => by rw [upd_ne (ne_of_none e hx), upd_ne (ne_of_none e hd)]; exact e) upd_same
theorem tMake_n {C : Addr} {sp : Sp} {dvs : List V} {E : XK} {t : TA} : tMake C sp dvs E t = fun σ H Q => t σ H fun vs H1 => Made H1 C fun x H2 => sp (.ref x :: (vs ++ dvs)) H2 (fun v H3 => v = .non ∧ Q (.ref x) H3) E := rfl
theorem sFld_n {K : PySem.W.Frag} {ta tv : TE} {f : Str} : sFld K ta tv f = fun D σ H => tv σ H fun y H1 => ta σ H1 fun x H2 => ∃ a C dx fs, x = .ref a ∧ H2 a = some (.ins C dx fs) ∧ Cls K C ∧ NoAttr K C f ∧ fs.length < 1000 ∧
  Upd H2 a (.ins C dx (putF f y fs)) fun H3 => D.nx σ H3 := rfl
theorem ps_fldK {X : Cx} {K : PySem.W.Frag} {o value : Expr} {f : Str} {pos pos' : Pos} {ta tv : TE} (ha : PE X o ta) (hv : PE X value tv) (hs : swapsWith value (some (.Attribute o f pos')) pos.line X.env = pure false) (h : X.K = K := by rfl) : PS X (.Assign [.Attribute o f pos'] value pos) (sFld K ta tv f) := by subst h; exact ps_fld ha hv hs
theorem lk0 {f : Str} {v : V} {r : List (Str × V)} : List.lookup f ((f, v) :: r) = some v := by simp [List.lookup]
theorem lk1 {f g : Str} {v : V} {r : List (Str × V)} {o : Option V} (h : (g == f) = false) (k : List.lookup g r = o) : List.lookup g ((f, v) :: r) = o := by
  rw [List.lookup_cons, h]
  exact k
theorem putF0 {f : Str} {v x : V} {r : List (Str × V)} : putF f v ((f, x) :: r) = (f, v) :: r := by
  unfold putF
  rw [if_pos rfl]
theorem putF1 {f g : Str} {v x : V} {r : List (Str × V)} (h : ¬ g = f) : putF f v ((g, x) :: r) = (g, x) :: putF f v r := by
  show (if g = f then _ else _) = _
  rw [if_neg h]
def rInsert : V → List V → Hp → VK → Prop := fun x vs H Q => ∃ (l : Addr) (xs : List V) (i : Int) (y : V), x = .ref l ∧ vs = [.int i, y] ∧ H l = some (.lst xs) ∧ xs.length < sizeLine ∧ 0 ≤ i ∧ i < 2 ^ 63 ∧ Upd H l (.lst (xs.take i.toNat ++ [y] ++ xs.drop i.toNat)) fun H2 => Q .non H2
theorem mt_insertR {X : Cx} : MtR X "list.insert" rInsert := mt_insert
theorem rRemI_n : rRemI = fun x xs H Q => ∃ (l : Addr) (ns : List Int) (k : Int) (j : Nat), x = V.ref l ∧ xs = [V.int k] ∧ H l = some (.lst (ns.map V.int)) ∧ ns[j]? = some k ∧ (∀ m : Nat, m < j → ns[m]? ≠ some k) ∧ Upd H l (.lst ((ns.eraseIdx j).map V.int)) fun H2 => Q .non H2 := rfl
theorem inV_int (n : Int) : ∀ ns : List Int, inV (.int n) (ns.map V.int) = decide (n ∈ ns)
  | [] => rfl
  | a :: r => by
    have e : inV (.int n) ((a :: r).map V.int) = (eqV (.int a) (.int n) || inV (.int n) (r.map V.int)) := rfl
    rw [e, inV_int n r]
    have e2 : eqV (.int a) (.int n) = decide (a = n) := by
      unfold eqV
      rfl
    rw [e2]
    by_cases h : a = n
    · subst h
      simp
    · simp [h, Ne.symm h]
theorem flat_ints : ∀ ns : List Int, (ns.map V.int).all flatV = true
  | [] => rfl
  | _ :: r => flat_ints r

/-! ### loops by an invariant -/
theorem Loop.list {K : PySem.W.Frag} {a : Addr} {xs : List V} {g : TG} {tb : TS} {D : Ends} {σ : L2.St} {H : Hp} (Pv : Nat → L2.St → Hp → Prop) (h0 : Pv 0 σ H) (hl : ∀ i σ H, i ≤ xs.length → Pv i σ H → SqL K H a xs)
    (hs : ∀ i x σ H, xs[i]? = some x → Pv i σ H → g x σ H fun σ2 H2 => tb { D with nx := Pv (i + 1), ct := Pv (i + 1), bk := D.nx } σ2 H2) (hd : ∀ σ H, Pv xs.length σ H → D.nx σ H) : Loop (Itl K a) g tb D σ H := for_list Pv h0 hl hs hd
theorem Loop.tup {K : PySem.W.Frag} {a : Addr} {xs : List V} {g : TG} {tb : TS} {D : Ends} {σ : L2.St} {H : Hp} (Pv : Nat → L2.St → Hp → Prop) (h0 : Pv 0 σ H) (hl : ∀ i σ H, i ≤ xs.length → Pv i σ H → SqT K H a xs)
    (hs : ∀ i x σ H, xs[i]? = some x → Pv i σ H → g x σ H fun σ2 H2 => tb { D with nx := Pv (i + 1), ct := Pv (i + 1), bk := D.nx } σ2 H2) (hd : ∀ σ H, Pv xs.length σ H → D.nx σ H) : Loop (Itt K a) g tb D σ H := for_tup Pv h0 hl hs hd
theorem Loop.range {lo : Int} {n : Nat} {g : TG} {tb : TS} {D : Ends} {σ : L2.St} {H : Hp} (Pv : Nat → L2.St → Hp → Prop) (h0 : Pv 0 σ H)
    (hs : ∀ i σ H, i < n → Pv i σ H → g (.int (lo + i)) σ H fun σ2 H2 => tb { D with nx := Pv (i + 1), ct := Pv (i + 1), bk := D.nx } σ2 H2) (hd : ∀ σ H, Pv n σ H → D.nx σ H) : Loop (Itr lo n) g tb D σ H := for_range Pv h0 hs hd
theorem Loop.rev {K : PySem.W.Frag} {a : Addr} {xs : List V} {n : Nat} {g : TG} {tb : TS} {D : Ends} {σ : L2.St} {H : Hp} (hn : n = xs.length) (Pv : Nat → L2.St → Hp → Prop) (h0 : Pv 0 σ H) (hl : ∀ i σ H, i ≤ xs.length → Pv i σ H → SqL K H a xs)
    (hs : ∀ i x σ H, xs[xs.length - 1 - i]? = some x → i < xs.length → Pv i σ H → g x σ H fun σ2 H2 => tb { D with nx := Pv (i + 1), ct := Pv (i + 1), bk := D.nx } σ2 H2) (hd : ∀ σ H, Pv xs.length σ H → D.nx σ H) : Loop (Itv K a n) g tb D σ H := by
  subst hn
  refine ⟨fun i m σ H => m = xs.length - i ∧ i ≤ xs.length ∧ Pv i σ H, ⟨xs.length, by simp, Nat.zero_le _, h0⟩, ?_⟩
  rintro i m σ H ⟨rfl, hi, p⟩
  have q := hl i σ H hi p
  by_cases hlt : i < xs.length
  · have hx : xs.length - 1 - i < xs.length := by omega
    refine .inr ⟨⟨hlt, xs, xs[xs.length - 1 - i], q, by simp [hx]⟩, Pv (i + 1), fun σ' H' p' => ⟨xs.length - (i + 1), by omega, rfl, hlt, p'⟩, fun x H' y => ?_⟩
    obtain ⟨e, y⟩ := y
    subst e
    exact hs i x σ _ (y xs q) hlt p
  · have e : i = xs.length := by omega
    subst e
    exact .inl ⟨Nat.le_refl _, hd σ H p⟩
theorem Loop.enum {K : PySem.W.Frag} {a : Addr} {xs : List V} {g : TG} {tb : TS} {D : Ends} {σ : L2.St} {H : Hp} (Pv : Nat → L2.St → Hp → Prop) (h0 : Pv 0 σ H) (hl : ∀ i σ H, i ≤ xs.length → Pv i σ H → SqL K H a xs)
    (hs : ∀ i x σ H T H1, xs[i]? = some x → Pv i σ H → H T = none → Same H H1 → H1 T = some (.tup [.int (i : Nat), x]) → g (.ref T) σ H1 fun σ2 H2 => tb { D with nx := Pv (i + 1), ct := Pv (i + 1), bk := D.nx } σ2 H2) (hd : ∀ σ H, Pv xs.length σ H → D.nx σ H) : Loop (Ite K a) g tb D σ H := by
  refine ⟨fun i m σ H => m = xs.length - i ∧ i ≤ xs.length ∧ Pv i σ H, ⟨xs.length, by simp, Nat.zero_le _, h0⟩, ?_⟩
  rintro i m σ H ⟨rfl, hi, p⟩
  have q := hl i σ H hi p
  by_cases hlt : i < xs.length
  · refine .inr ⟨⟨xs, xs[i], q, by simp [hlt]⟩, Pv (i + 1), fun σ' H' p' => ⟨xs.length - (i + 1), by omega, rfl, hlt, p'⟩, fun v H' y => ?_⟩
    obtain ⟨T, x, rfl, nT, rfl, f⟩ := y
    exact hs i x σ H T _ (f xs q) p nT (same_new nT) upd_same
  · have e : i = xs.length := by omega
    subst e
    exact .inl ⟨⟨xs, q, Nat.le_refl _⟩, hd σ H p⟩
theorem Loop.zip {K : PySem.W.Frag} {a b : Addr} {xs ys : List V} {g : TG} {tb : TS} {D : Ends} {σ : L2.St} {H : Hp} (hn : xs.length = ys.length) (Pv : Nat → L2.St → Hp → Prop) (h0 : Pv 0 σ H) (hl : ∀ i σ H, i ≤ xs.length → Pv i σ H → SqL K H a xs ∧ SqL K H b ys)
    (hs : ∀ i x y σ H T H1, xs[i]? = some x → ys[i]? = some y → Pv i σ H → H T = none → Same H H1 → H1 T = some (.tup [x, y]) → g (.ref T) σ H1 fun σ2 H2 => tb { D with nx := Pv (i + 1), ct := Pv (i + 1), bk := D.nx } σ2 H2) (hd : ∀ σ H, Pv xs.length σ H → D.nx σ H) : Loop (Itz K a b) g tb D σ H := by
  refine ⟨fun i m σ H => m = xs.length - i ∧ i ≤ xs.length ∧ Pv i σ H, ⟨xs.length, by simp, Nat.zero_le _, h0⟩, ?_⟩
  rintro i m σ H ⟨rfl, hi, p⟩
  have q := hl i σ H hi p
  by_cases hlt : i < xs.length
  · refine .inr ⟨⟨xs, ys, xs[i], ys[i]'(by omega), q.1, q.2, by simp [hlt], by simp [show i < ys.length by omega]⟩, Pv (i + 1), fun σ' H' p' => ⟨xs.length - (i + 1), by omega, rfl, hlt, p'⟩, fun v H' y => ?_⟩
    obtain ⟨T, x, y, rfl, nT, rfl, f1, f2⟩ := y
    exact hs i x y σ H T _ (f1 xs q.1) (f2 ys q.2) p nT (same_new nT) upd_same
  · have e : i = xs.length := by omega
    subst e
    exact .inl ⟨⟨xs, ys, q.1, q.2, .inl (Nat.le_refl _)⟩, hd σ H p⟩
theorem Loop.str {z : Str} {g : TG} {tb : TS} {D : Ends} {σ : L2.St} {H : Hp} (Pv : Nat → L2.St → Hp → Prop) (h0 : Pv 0 σ H)
    (hs : ∀ i c σ H, z.cps[i]? = some c → Pv i σ H → g (.str ⟨#[c]⟩) σ H fun σ2 H2 => tb { D with nx := Pv (i + 1), ct := Pv (i + 1), bk := D.nx } σ2 H2) (hd : ∀ σ H, Pv z.cps.size σ H → D.nx σ H) : Loop (Its z) g tb D σ H := by
  refine ⟨fun i m σ H => m = z.cps.size - i ∧ i ≤ z.cps.size ∧ Pv i σ H, ⟨z.cps.size, by simp, Nat.zero_le _, h0⟩, ?_⟩
  rintro i m σ H ⟨rfl, hi, p⟩
  by_cases hlt : i < z.cps.size
  · refine .inr ⟨hlt, Pv (i + 1), fun σ' H' p' => ⟨z.cps.size - (i + 1), by omega, rfl, hlt, p'⟩, fun x H' y => ?_⟩
    obtain ⟨e, c, hc, ex⟩ := y
    subst e ex
    exact hs i c σ _ hc p
  · have e : i = z.cps.size := by omega
    subst e
    exact .inl ⟨Nat.le_refl _, hd σ H p⟩

theorem int_at {ns : List Int} {i : Nat} {x : V} (h : (ns.map V.int)[i]? = some x) : ∃ z, ns[i]? = some z ∧ x = .int z := by
  rw [List.getElem?_map] at h
  cases e : ns[i]? with
  | none =>
    rw [e] at h
    cases h
  | some z =>
    rw [e] at h
    exact ⟨z, rfl, (Option.some.inj h).symm⟩
theorem at_int {ns : List Int} {i : Nat} {z : Int} (h : ns[i]? = some z) : (ns.map V.int)[i]? = some (.int z) := by
  rw [List.getElem?_map, h]
  rfl
theorem take_snoc {α : Type} {l : List α} {i : Nat} {x : α} (h : l[i]? = some x) : l.take (i + 1) = l.take i ++ [x] := by
  rw [List.take_add_one, h]
  rfl
theorem drop_at {α : Type} {l : List α} {i : Nat} {x : α} (h : l[i]? = some x) : l.drop i = x :: l.drop (i + 1) := by
  obtain ⟨hi, e⟩ := List.getElem?_eq_some_iff.mp h
  rw [List.drop_eq_getElem_cons hi, e]
theorem iteN {c A B : Prop} [Decidable c] (hc : ¬ c) (h : B) : if c then A else B := by
  rw [if_neg hc]
  exact h
theorem iteP {c A B : Prop} [Decidable c] (hc : c) (h : A) : if c then A else B := by
  rw [if_pos hc]
  exact h
/-! ### comprehensions -/
/-- what is made so far stands at D; the source stands; an element may change what it likes but D -/
theorem Cmp.list {K : PySem.W.Frag} {a : Addr} {xs : List V} {g : TG} {tt : TT} {te : TE} {vs : List Nat} {σ : L2.St} {H1 : Hp} {Q : VK} (Pv : Addr → Nat → List V → Hp → Prop)
    (h0 : ∀ D H2, H1 D = none → Same H1 H2 → H2 D = some (.lst []) → Pv D 0 [] H2) (hl : ∀ D i acc H, i ≤ xs.length → Pv D i acc H → SqL K H a xs)
    (hs : ∀ D i x acc H (Nx : Hp → Prop), xs[i]? = some x → acc.length ≤ i → Pv D i acc H → (∀ acc' H', acc'.length ≤ i + 1 → Pv D (i + 1) acc' H' → Nx H') → g x (wipe σ vs) H fun σ2 H2 => wipe σ2 vs = wipe σ vs ∧ tt σ2 H2 fun b H3 =>
      if b = true then te σ2 H3 fun y H4 => ∃ acc, H4 D = some (.lst acc) ∧ acc.length < sizeLine ∧ Nx (upd H4 D (.lst (acc ++ [y]))) else Nx H3) (hd : ∀ D acc H, acc.length ≤ xs.length → Pv D xs.length acc H → Q (.ref D) H) : Cmp (Itl K a) g tt te vs σ H1 Q := fun D nD =>
  lc_list (K := K) (a := a) (xs := xs) (fun i H => ∃ acc, acc.length ≤ i ∧ Pv D i acc H) ⟨[], Nat.zero_le _, h0 D _ nD (same_new nD) upd_same⟩ (fun i H hi ⟨acc, _, p⟩ => hl D i acc H hi p)
    (fun i x H hx ⟨acc, ha, p⟩ => hs D i x acc H _ hx ha p fun acc' H' h1 h2 => ⟨acc', h1, h2⟩) (fun H ⟨acc, ha, p⟩ => hd D acc H ha p)
theorem Cmp.tup {K : PySem.W.Frag} {a : Addr} {xs : List V} {g : TG} {tt : TT} {te : TE} {vs : List Nat} {σ : L2.St} {H1 : Hp} {Q : VK} (Pv : Addr → Nat → List V → Hp → Prop)
    (h0 : ∀ D H2, H1 D = none → Same H1 H2 → H2 D = some (.lst []) → Pv D 0 [] H2) (hl : ∀ D i acc H, i ≤ xs.length → Pv D i acc H → SqT K H a xs)
    (hs : ∀ D i x acc H (Nx : Hp → Prop), xs[i]? = some x → acc.length ≤ i → Pv D i acc H → (∀ acc' H', acc'.length ≤ i + 1 → Pv D (i + 1) acc' H' → Nx H') → g x (wipe σ vs) H fun σ2 H2 => wipe σ2 vs = wipe σ vs ∧ tt σ2 H2 fun b H3 =>
      if b = true then te σ2 H3 fun y H4 => ∃ acc, H4 D = some (.lst acc) ∧ acc.length < sizeLine ∧ Nx (upd H4 D (.lst (acc ++ [y]))) else Nx H3) (hd : ∀ D acc H, acc.length ≤ xs.length → Pv D xs.length acc H → Q (.ref D) H) : Cmp (Itt K a) g tt te vs σ H1 Q := fun D nD =>
  lc_tup (K := K) (a := a) (xs := xs) (fun i H => ∃ acc, acc.length ≤ i ∧ Pv D i acc H) ⟨[], Nat.zero_le _, h0 D _ nD (same_new nD) upd_same⟩ (fun i H hi ⟨acc, _, p⟩ => hl D i acc H hi p)
    (fun i x H hx ⟨acc, ha, p⟩ => hs D i x acc H _ hx ha p fun acc' H' h1 h2 => ⟨acc', h1, h2⟩) (fun H ⟨acc, ha, p⟩ => hd D acc H ha p)
theorem Cmp.range {lo : Int} {n : Nat} {g : TG} {tt : TT} {te : TE} {vs : List Nat} {σ : L2.St} {H1 : Hp} {Q : VK} (Pv : Addr → Nat → List V → Hp → Prop)
    (h0 : ∀ D H2, H1 D = none → Same H1 H2 → H2 D = some (.lst []) → Pv D 0 [] H2)
    (hs : ∀ D i acc H (Nx : Hp → Prop), i < n → acc.length ≤ i → Pv D i acc H → (∀ acc' H', acc'.length ≤ i + 1 → Pv D (i + 1) acc' H' → Nx H') → g (.int (lo + i)) (wipe σ vs) H fun σ2 H2 => wipe σ2 vs = wipe σ vs ∧ tt σ2 H2 fun b H3 =>
      if b = true then te σ2 H3 fun y H4 => ∃ acc, H4 D = some (.lst acc) ∧ acc.length < sizeLine ∧ Nx (upd H4 D (.lst (acc ++ [y]))) else Nx H3) (hd : ∀ D acc H, acc.length ≤ n → Pv D n acc H → Q (.ref D) H) : Cmp (Itr lo n) g tt te vs σ H1 Q := fun D nD =>
  lc_range (lo := lo) (n := n) (fun i H => ∃ acc, acc.length ≤ i ∧ Pv D i acc H) ⟨[], Nat.zero_le _, h0 D _ nD (same_new nD) upd_same⟩
    (fun i H hx ⟨acc, ha, p⟩ => hs D i acc H _ hx ha p fun acc' H' h1 h2 => ⟨acc', h1, h2⟩) (fun H ⟨acc, ha, p⟩ => hd D acc H ha p)
theorem push {D : Addr} {i : Nat} {acc : List V} {y : V} {H4 : Hp} {Nx : Hp → Prop} {PV : List V → Hp → Prop} (hN : ∀ acc' H', acc'.length ≤ i + 1 → PV acc' H' → Nx H') (ha : acc.length ≤ i) (h : H4 D = some (.lst acc)) (hi : i < 1000000)
    (hp : ∀ H5, Off D H4 H5 → H5 D = some (.lst (acc ++ [y])) → PV (acc ++ [y]) H5) : ∃ acc, H4 D = some (.lst acc) ∧ acc.length < sizeLine ∧ Nx (upd H4 D (.lst (acc ++ [y]))) :=
  ⟨acc, h, Nat.lt_of_lt_of_le (Nat.lt_of_le_of_lt ha hi) (by decide), hN _ _ (by rw [List.length_append]; exact Nat.succ_le_succ ha) (hp _ Off.upd upd_same)⟩
/-- elements that change nothing, over a list; with a test -/
theorem Cmp.pureF {K : PySem.W.Frag} {a : Addr} {xs : List V} {j : Nat} {tt : TT} {te : TE} {vs : List Nat} {σ : L2.St} {H1 : Hp} {Q : VK} (p : V → Bool) (f : V → V) (hS : SqL K H1 a xs) (hz : xs.length ≤ 100000) (hw : ∀ x, wipe ((wipe σ vs).set j (some x)) vs = wipe σ vs)
    (ht : ∀ x H2 (R : Bool → Hp → Prop), x ∈ xs → Same H1 H2 → (∀ H3, Same H2 H3 → R (p x) H3) → tt ((wipe σ vs).set j (some x)) H2 R)
    (he : ∀ x H2 (R : VK), x ∈ xs → p x = true → Same H1 H2 → (∀ H3, Same H2 H3 → R (f x) H3) → te ((wipe σ vs).set j (some x)) H2 R)
    (hd : ∀ l H2, H1 l = none → Same H1 H2 → H2 l = some (.lst ((xs.filter p).map f)) → Q (.ref l) H2) : Cmp (Itl K a) (gName j) tt te vs σ H1 Q := by
  refine Cmp.list (xs := xs) (fun D i acc H => H1 D = none ∧ Same H1 H ∧ H D = some (.lst acc) ∧ acc = ((xs.take i).filter p).map f) (fun D H2 nD s2 h2 => ⟨nD, s2, h2, by simp⟩) (fun D i acc H _ ⟨_, s2, _⟩ => s2.seq hS) ?_ ?_
  · rintro D i x acc H Nx hx ha ⟨nD, s2, h2, ea⟩ hN
    have hi : i < xs.length := (List.getElem?_eq_some_iff.mp hx).1
    have hm := List.mem_of_getElem? hx
    refine ⟨hw x, ht x H _ hm s2 fun H3 s3 => ?_⟩
    cases hp : p x with
    | true =>
      rw [if_pos rfl]
      refine he x H3 _ hm hp (s2.trans s3) fun H4 s4 => push hN ha (s4 _ _ (s3 _ _ h2)) (by omega) fun H5 o5 h5 => ⟨nD, Same.off ((s2.trans s3).trans s4) nD o5, h5, ?_⟩
      rw [ea, take_snoc hx, List.filter_append, List.map_append]
      simp [hp]
    | false =>
      rw [if_neg Bool.false_ne_true]
      refine hN acc H3 (Nat.le_succ_of_le ha) ⟨nD, s2.trans s3, s3 _ _ h2, ?_⟩
      rw [ea, take_snoc hx, List.filter_append, List.map_append]
      simp [hp]
  · rintro D acc H _ ⟨nD, s2, h2, ea⟩
    rw [List.take_length] at ea
    exact hd D H nD s2 (ea ▸ h2)
theorem Cmp.pureL {K : PySem.W.Frag} {a : Addr} {xs : List V} {j : Nat} {te : TE} {vs : List Nat} {σ : L2.St} {H1 : Hp} {Q : VK} (f : V → V) (hS : SqL K H1 a xs) (hz : xs.length ≤ 100000) (hw : ∀ x, wipe ((wipe σ vs).set j (some x)) vs = wipe σ vs)
    (he : ∀ x H2 (R : VK), x ∈ xs → Same H1 H2 → (∀ H3, Same H2 H3 → R (f x) H3) → te ((wipe σ vs).set j (some x)) H2 R)
    (hd : ∀ l H2, H1 l = none → Same H1 H2 → H2 l = some (.lst (xs.map f)) → Q (.ref l) H2) : Cmp (Itl K a) (gName j) tYes te vs σ H1 Q :=
  Cmp.pureF (fun _ => true) f hS hz hw (fun x H2 R _ _ h => h H2 (Same.refl H2)) (fun x H2 R hm _ => he x H2 R hm) fun l H2 n s h => hd l H2 n s (by rw [List.filter_eq_self.mpr (fun _ _ => rfl)] at h; exact h)
theorem Cmp.pureRF {lo : Int} {n : Nat} {j : Nat} {tt : TT} {te : TE} {vs : List Nat} {σ : L2.St} {H1 : Hp} {Q : VK} (p : Nat → Bool) (f : Nat → V) (hz : n ≤ 100000) (hw : ∀ x, wipe ((wipe σ vs).set j (some x)) vs = wipe σ vs)
    (ht : ∀ i H2 (R : Bool → Hp → Prop), i < n → Same H1 H2 → (∀ H3, Same H2 H3 → R (p i) H3) → tt ((wipe σ vs).set j (some (.int (lo + (i : Int))))) H2 R)
    (he : ∀ i H2 (R : VK), i < n → p i = true → Same H1 H2 → (∀ H3, Same H2 H3 → R (f i) H3) → te ((wipe σ vs).set j (some (.int (lo + (i : Int))))) H2 R)
    (hd : ∀ l H2, H1 l = none → Same H1 H2 → H2 l = some (.lst (((List.range n).filter p).map f)) → Q (.ref l) H2) : Cmp (Itr lo n) (gName j) tt te vs σ H1 Q := by
  refine Cmp.range (fun D i acc H => H1 D = none ∧ Same H1 H ∧ H D = some (.lst acc) ∧ acc = ((List.range i).filter p).map f) (fun D H2 nD s2 h2 => ⟨nD, s2, h2, by simp⟩) ?_ ?_
  · rintro D i acc H Nx hi ha ⟨nD, s2, h2, ea⟩ hN
    refine ⟨hw _, ht i H _ hi s2 fun H3 s3 => ?_⟩
    cases hp : p i with
    | true =>
      rw [if_pos rfl]
      refine he i H3 _ hi hp (s2.trans s3) fun H4 s4 => push hN ha (s4 _ _ (s3 _ _ h2)) (by omega) fun H5 o5 h5 => ⟨nD, Same.off ((s2.trans s3).trans s4) nD o5, h5, ?_⟩
      rw [ea, List.range_succ, List.filter_append, List.map_append]
      simp [hp]
    | false =>
      rw [if_neg Bool.false_ne_true]
      refine hN acc H3 (Nat.le_succ_of_le ha) ⟨nD, s2.trans s3, s3 _ _ h2, ?_⟩
      rw [ea, List.range_succ, List.filter_append, List.map_append]
      simp [hp]
  · rintro D acc H _ ⟨nD, s2, h2, ea⟩
    exact hd D H nD s2 (ea ▸ h2)
theorem Cmp.pureR {lo : Int} {n : Nat} {j : Nat} {te : TE} {vs : List Nat} {σ : L2.St} {H1 : Hp} {Q : VK} (f : Nat → V) (hz : n ≤ 100000) (hw : ∀ x, wipe ((wipe σ vs).set j (some x)) vs = wipe σ vs)
    (he : ∀ i H2 (R : VK), i < n → Same H1 H2 → (∀ H3, Same H2 H3 → R (f i) H3) → te ((wipe σ vs).set j (some (.int (lo + (i : Int))))) H2 R)
    (hd : ∀ l H2, H1 l = none → Same H1 H2 → H2 l = some (.lst ((List.range n).map f)) → Q (.ref l) H2) : Cmp (Itr lo n) (gName j) tYes te vs σ H1 Q :=
  Cmp.pureRF (fun _ => true) f hz hw (fun x H2 R _ _ h => h H2 (Same.refl H2)) (fun x H2 R hm _ => he x H2 R hm) fun l H2 n s h => hd l H2 n s (by rw [List.filter_eq_self.mpr (fun _ _ => rfl)] at h; exact h)

theorem sq_true {K : PySem.W.Frag} {H : Hp} {l : Addr} {α : Type} {ys : List α} (h : H l = some (.lst (ys.map fun _ => V.bl true))) : SqL K H l ((ys.map fun _ => true).map V.bl) := by
  rw [List.map_map]
  exact seq_of h
theorem all_true {α : Type} : ∀ ys : List α, (ys.map fun _ => true).all id = true
  | [] => rfl
  | _ :: r => all_true r
theorem cut_to (xs : List V) (j : Nat) : cutV xs none (some (j : Int)) = xs.take j := by
  unfold cutV
  rw [HT.sIx_none, HT.sIx_nat, List.drop_zero, Nat.sub_zero]
  by_cases h : j ≤ xs.length
  · rw [Nat.min_eq_left h]
  · rw [Nat.min_eq_right (by omega), List.take_of_length_le (Nat.le_refl _), List.take_of_length_le (by omega)]
theorem cut_from (xs : List V) (j : Nat) : cutV xs (some (j : Int)) none = xs.drop j := by
  unfold cutV
  rw [HT.sIx_none, HT.sIx_nat]
  by_cases h : j ≤ xs.length
  · rw [Nat.min_eq_left h, List.take_of_length_le (by rw [List.length_drop]; omega)]
  · rw [Nat.min_eq_right (by omega), List.drop_eq_nil_of_le (Nat.le_refl _), List.drop_eq_nil_of_le (by omega), List.take_nil]

/-! ### data -/
def pd : V → PyData
  | .bl b => .bool b
  | .int i => .int i
  | .str x => .str x
  | _ => .none
def isPd : V → Bool
  | .bl _ => true
  | .int _ => true
  | .str x => PyData.strOk x
  | .non => true
  | _ => false
theorem dp_pd {K : PySem.W.Frag} {H : Hp} : ∀ {x : V}, isPd x = true → Dp K H x (pd x)
  | .non, _ => .non
  | .bl b, _ => .bl b
  | .int i, _ => .int i
  | .str x, _ => .str x
theorem dpAll_pd {K : PySem.W.Frag} {H : Hp} : ∀ {xs : List V}, xs.all isPd = true → DpAll K H xs (xs.map pd)
  | [], _ => .nil
  | x :: xs, h => by
    rw [List.all_cons, Bool.and_eq_true] at h
    exact .cons (dp_pd h.1) (dpAll_pd h.2)
theorem ints_pd : ∀ ns : List Int, (ns.map V.int).all isPd = true
  | [] => rfl
  | _ :: r => ints_pd r
theorem dp_lst {K : PySem.W.Frag} {H : Hp} {a : Addr} {xs : List V} (h : SqL K H a xs) (hx : xs.all isPd = true) : Dp K H (.ref a) (.list (xs.map pd)) := .lst h (dpAll_pd hx)
theorem dp_tup {K : PySem.W.Frag} {H : Hp} {a : Addr} {xs : List V} (h : SqT K H a xs) (hx : xs.all isPd = true) : Dp K H (.ref a) (.tuple (xs.map pd)) := .tup h (dpAll_pd hx)
theorem pd_lay : ∀ {x : V}, isPd x = true → (pd x).canLay0 = true
  | .non, _ => rfl
  | .bl _, _ => rfl
  | .int _, _ => rfl
  | .str x, h => h
theorem pd_layAll : ∀ {xs : List V}, xs.all isPd = true → PyData.canLayAll0 (xs.map pd) = true
  | [], _ => rfl
  | x :: xs, h => by
    rw [List.all_cons, Bool.and_eq_true] at h
    show ((pd x).canLay0 && PyData.canLayAll0 (xs.map pd)) = true
    rw [pd_lay h.1, pd_layAll h.2]
    rfl
theorem pd_depth : ∀ x : V, (pd x).depth = 0
  | .non => rfl
  | .bl _ => rfl
  | .int _ => rfl
  | .str _ => rfl
  | .byt _ => rfl
  | .flt _ => rfl
  | .ref _ => rfl
  | .ty _ => rfl

theorem pd_depthAll : ∀ xs : List V, PyData.depthAll (xs.map pd) = 0
  | [] => rfl
  | x :: xs => by
    show max (pd x).depth (PyData.depthAll (xs.map pd)) = 0
    rw [pd_depth, pd_depthAll]
    rfl
theorem shaped_lst {xs : List V} (h : xs.all isPd = true) : SeqAt.shaped (.list (xs.map pd)) = true := by
  have e : (PyData.list (xs.map pd)).depth = 1 := by
    show PyData.depthAll (xs.map pd) + 1 = 1
    rw [pd_depthAll]
  show ((PyData.canLayAll0 (xs.map pd)) && decide ((PyData.list (xs.map pd)).depth ≤ 64)) = true
  rw [pd_layAll h, e]
  rfl
theorem shaped_tup {xs : List V} (h : xs.all isPd = true) : SeqAt.shaped (.tuple (xs.map pd)) = true := by
  have e : (PyData.tuple (xs.map pd)).depth = 1 := by
    show PyData.depthAll (xs.map pd) + 1 = 1
    rw [pd_depthAll]
  show ((PyData.canLayAll0 (xs.map pd)) && decide ((PyData.tuple (xs.map pd)).depth ≤ 64)) = true
  rw [pd_layAll h, e]
  rfl
theorem eqvAll_ints : ∀ ns ms : List Int, PyData.eqvAll ((ns.map V.int).map pd) ((ms.map V.int).map pd) = decide (ns = ms)
  | [], [] => rfl
  | [], _ :: _ => rfl
  | _ :: _, [] => rfl
  | a :: r, b :: t => by
    show ((a == b) && PyData.eqvAll ((r.map V.int).map pd) ((t.map V.int).map pd)) = decide (a :: r = b :: t)
    rw [eqvAll_ints r t]
    by_cases h : a = b
    · subst h
      simp
    · simp [h]
theorem eqv_ints (ns ms : List Int) : PyData.eqv (.list ((ns.map V.int).map pd)) (.list ((ms.map V.int).map pd)) = decide (ns = ms) := eqvAll_ints ns ms
/-- == of two lists of ints -/
theorem eq_ints {K : PySem.W.Frag} {H : Hp} {a b : Addr} {ns ms : List Int} {Q : VK} (ha : SqL K H a (ns.map V.int)) (hb : SqL K H b (ms.map V.int)) (q : Q (.bl (decide (ns = ms))) H) : rEqD K (.ref a) (.ref b) H Q :=
  ⟨_, _, dp_lst ha (ints_pd ns), dp_lst hb (ints_pd ms), shaped_lst (ints_pd ns), shaped_lst (ints_pd ms), by rw [eqv_ints]; exact q⟩
theorem ne_ints {K : PySem.W.Frag} {H : Hp} {a b : Addr} {ns ms : List Int} {Q : VK} (ha : SqL K H a (ns.map V.int)) (hb : SqL K H b (ms.map V.int)) (q : Q (.bl (!decide (ns = ms))) H) : rNeD K (.ref a) (.ref b) H Q :=
  ⟨_, _, dp_lst ha (ints_pd ns), dp_lst hb (ints_pd ms), shaped_lst (ints_pd ns), shaped_lst (ints_pd ms), by rw [eqv_ints]; exact q⟩
/-- == of equal data -/
theorem eq_tups {K : PySem.W.Frag} {H : Hp} {a b : Addr} {xs : List V} {Q : VK} (ha : SqT K H a xs) (hb : SqT K H b xs) (hx : xs.all isPd = true) (q : Q (.bl true) H) : rEqD K (.ref a) (.ref b) H Q :=
  ⟨_, _, dp_tup ha hx, dp_tup hb hx, shaped_tup hx, shaped_tup hx, by rw [SeqAt.eqv_refl (.tuple (xs.map pd)) (show PyData.canLayAll0 (xs.map pd) = true from pd_layAll hx)]; exact q⟩

/-- the type of a list, of a tuple, of an int that is told -/
theorem tyv_list {K : PySem.W.Frag} {H : Hp} {a : Addr} {xs : List V} (h : SqL K H a xs) : tyV K "list" (.ref a) H := .inl ⟨rfl, _, h⟩
theorem ty_int {K : PySem.W.Frag} {H : Hp} {i : Int} : TyX K H (.int i) (.type "int") := .base (.int i)
theorem ty_lst {K : PySem.W.Frag} {H : Hp} {a : Addr} {xs : List V} (h : H a = some (.lst xs)) : TyX K H (.ref a) (.type "list") := .base (.lst h)
theorem ty_tup {K : PySem.W.Frag} {H : Hp} {a : Addr} {xs : List V} (h : H a = some (.tup xs)) : TyX K H (.ref a) (.type "tuple") := .base (.tup h)

theorem scal_ii {i j : Int} : scal (.int i) (.int j) = true := rfl
theorem scal_bb {i j : Bool} : scal (.bl i) (.bl j) = true := rfl
theorem scal_ss {i j : Str} : scal (.str i) (.str j) = true := rfl
theorem scal_nn : scal .non .non = true := rfl
theorem scal_ni {j : Int} : scal .non (.int j) = true := rfl
theorem scal_in {j : Int} : scal (.int j) .non = true := rfl
theorem scal_ns {j : Str} : scal .non (.str j) = true := rfl
theorem scal_sn {j : Str} : scal (.str j) .non = true := rfl
theorem scal_is {i : Int} {j : Str} : scal (.int i) (.str j) = true := rfl
theorem scal_si {i : Int} {j : Str} : scal (.str j) (.int i) = true := rfl

/-! == of lists of tuples -/
def pdT (d : List V) : PyData := .tuple (d.map pd)
theorem dp_tups {K : PySem.W.Frag} {H : Hp} : ∀ {xs : List V} {ds : List (List V)}, Tups K H xs ds → (∀ d ∈ ds, d.all isPd = true) → DpAll K H xs (ds.map pdT)
  | _, _, .nil, _ => .nil
  | _, _, .cons (b := d) ⟨a, e, h⟩ t, hd => by
    subst e
    exact .cons (dp_tup h (hd d List.mem_cons_self)) (dp_tups t fun d h => hd d (List.mem_cons_of_mem _ h))
theorem lay_tups : ∀ {ds : List (List V)}, (∀ d ∈ ds, d.all isPd = true) → PyData.canLayAll0 (ds.map pdT) = true
  | [], _ => rfl
  | d :: r, h => by
    show (PyData.canLayAll0 (d.map pd) && PyData.canLayAll0 (r.map pdT)) = true
    rw [pd_layAll (h d List.mem_cons_self), lay_tups fun d hd => h d (List.mem_cons_of_mem _ hd)]
    rfl
theorem depth_tups : ∀ ds : List (List V), PyData.depthAll (ds.map pdT) ≤ 1
  | [] => by show 0 ≤ 1; decide
  | d :: r => by
    show max (PyData.depthAll (d.map pd) + 1) (PyData.depthAll (r.map pdT)) ≤ 1
    rw [pd_depthAll]
    have := depth_tups r
    omega
theorem shaped_tups {ds : List (List V)} (h : ∀ d ∈ ds, d.all isPd = true) : SeqAt.shaped (.list (ds.map pdT)) = true := by
  have e : (PyData.list (ds.map pdT)).depth ≤ 64 := by
    show PyData.depthAll (ds.map pdT) + 1 ≤ 64
    have := depth_tups ds
    omega
  show ((PyData.canLayAll0 (ds.map pdT)) && decide ((PyData.list (ds.map pdT)).depth ≤ 64)) = true
  rw [lay_tups h, decide_eq_true e]
  rfl
theorem eqv_tups {ds : List (List V)} (h : ∀ d ∈ ds, d.all isPd = true) : PyData.eqv (.list (ds.map pdT)) (.list (ds.map pdT)) = true := SeqAt.eqv_refl (.list (ds.map pdT)) (show PyData.canLayAll0 (ds.map pdT) = true from lay_tups h)
theorem eq_tupsL {K : PySem.W.Frag} {H : Hp} {a b : Addr} {xs ys : List V} {ds : List (List V)} {Q : VK} (ha : SqL K H a xs) (hb : SqL K H b ys) (t : Tups K H xs ds) (u : Tups K H ys ds) (hd : ∀ d ∈ ds, d.all isPd = true) (q : Q (.bl true) H) : rEqD K (.ref a) (.ref b) H Q :=
  ⟨_, _, .lst ha (dp_tups t hd), .lst hb (dp_tups u hd), shaped_tups hd, shaped_tups hd, by rw [eqv_tups hd]; exact q⟩
theorem ne_tupsL {K : PySem.W.Frag} {H : Hp} {a b : Addr} {xs ys : List V} {ds : List (List V)} {Q : VK} (ha : SqL K H a xs) (hb : SqL K H b ys) (t : Tups K H xs ds) (u : Tups K H ys ds) (hd : ∀ d ∈ ds, d.all isPd = true) (q : Q (.bl false) H) : rNeD K (.ref a) (.ref b) H Q :=
  ⟨_, _, .lst ha (dp_tups t hd), .lst hb (dp_tups u hd), shaped_tups hd, shaped_tups hd, by rw [eqv_tups hd]; exact q⟩

/-! ### list + list, whoever holds them -/
def rCatR (K : PySem.W.Frag) : R2 := fun x y H Q => ∃ l b xs zs, x = .ref l ∧ y = .ref b ∧ SqL K H l xs ∧ SqL K H b zs ∧ xs.length + zs.length ≤ sizeLine ∧ New H (.lst (xs ++ zs)) fun p H2 => Q (.ref p) H2
theorem op_catS {X : Cx} {K : PySem.W.Frag} (h : X.K = K := by rfl) : OpR X (binaryOp .Add) (rCatR K) := by
  subst h
  intro pins s σ H x y v u Q I rx ry h
  obtain ⟨l, b, xs, zs, rfl, rfl, hH, hB, hz, q⟩ := h
  cases rx
  cases ry
  obtain ⟨its, r, ⟨⟨cls, dd, dt, sl⟩, n, e, hc, hd0, hd⟩, hz1⟩ := I.list hH
  obtain ⟨its2, r2, ⟨⟨cls2, dd2, dt2, sl2⟩, n2, e2, hc2, hd02, hd2⟩, hz2⟩ := I.list hB
  simp only at hc hd hc2 hd2
  subst hc hd hc2 hd2
  have hl := r.length
  have hl2 := r2.length
  have ea : its.toArray ++ its2.toArray = (its ++ its2).toArray := by simp
  refine concat_meets ⟨_, e, rfl⟩ ⟨_, e2, rfl⟩ noFill_list_add seq_list_add PySem.F.slot_list_add PySem.F.entry_list_add (PySem.F.args_list_add_2 _ _) (list_addW l b its.toArray its2.toArray n n2 dd dd2 sl sl2 (by rw [List.size_toArray, List.size_toArray]; omega)) ⟨e, e2, ?_⟩
  rw [ea]
  exact ⟨.ref _, _, I.lnew (t' := s.toks) (r.append r2) (by rw [List.length_append]; omega), rfl, q _ I.fresh⟩

/-! ### int(x), [x] * n, == of equal lists -/
def rInt1 : List V → Hp → VK → Prop := fun xs H Q => (∃ i, xs = [.int i] ∧ Q (.int i) H) ∨ ∃ k, xs = [.bl k] ∧ Q (.int (if k then 1 else 0)) H
theorem call_int1R {X : Cx} : CallR X (.type "int") rInt1 := call_int1
theorem rRep_n : rRep = fun x y H Q => ∃ l k xs, x = .ref l ∧ y = .int k ∧ H l = some (.lst xs) ∧ -(2 ^ 63) ≤ k ∧ k < 2 ^ 63 ∧ xs.length * k.toNat ≤ sizeLine ∧ New H (.lst (List.replicate k.toNat xs).flatten) fun p H2 => Q (.ref p) H2 := rfl
theorem eq_lst {K : PySem.W.Frag} {H : Hp} {a b : Addr} {xs : List V} {Q : VK} (ha : SqL K H a xs) (hb : SqL K H b xs) (hx : xs.all isPd = true) (q : Q (.bl true) H) : rEqD K (.ref a) (.ref b) H Q :=
  ⟨_, _, dp_lst ha hx, dp_lst hb hx, shaped_lst hx, shaped_lst hx, by rw [SeqAt.eqv_refl (.list (xs.map pd)) (show PyData.canLayAll0 (xs.map pd) = true from pd_layAll hx)]; exact q⟩
theorem ne_lst {K : PySem.W.Frag} {H : Hp} {a b : Addr} {xs : List V} {Q : VK} (ha : SqL K H a xs) (hb : SqL K H b xs) (hx : xs.all isPd = true) (q : Q (.bl false) H) : rNeD K (.ref a) (.ref b) H Q :=
  ⟨_, _, dp_lst ha hx, dp_lst hb hx, shaped_lst hx, shaped_lst hx, by rw [SeqAt.eqv_refl (.list (xs.map pd)) (show PyData.canLayAll0 (xs.map pd) = true from pd_layAll hx)]; exact q⟩
theorem cut_init (xs : List V) (x : V) : cutV (xs ++ [x]) none (some (-1)) = xs := by
  unfold cutV HT.sIx
  simp only [List.length_append, List.length_singleton, List.drop_zero, Nat.sub_zero]
  rw [if_pos (by decide), show (-1 + ((xs.length + 1 : Nat) : Int)).toNat = xs.length by omega, List.take_append_of_le_length (Nat.le_refl _), List.take_length]
theorem cut_mid (xs : List V) (i j : Nat) : cutV xs (some (i : Int)) (some (j : Int)) = (xs.drop i).take (j - i) := by
  unfold cutV
  rw [HT.sIx_nat, HT.sIx_nat]
  by_cases h : i ≤ xs.length
  · rw [Nat.min_eq_left h]
    by_cases h2 : j ≤ xs.length
    · rw [Nat.min_eq_left h2]
    · rw [Nat.min_eq_right (by omega), List.take_of_length_le (by rw [List.length_drop]; omega), List.take_of_length_le (by rw [List.length_drop]; omega)]
  · have e : min i xs.length = xs.length := Nat.min_eq_right (by omega)
    rw [e, List.drop_eq_nil_of_le (Nat.le_refl _), List.drop_eq_nil_of_le (show xs.length ≤ i by omega), List.take_nil, List.take_nil]
/-! ### len(set(xs)) of ints -/
def tLenSetS (K : PySem.W.Frag) (ta : TE) : TE := fun σ H Q => ta σ H fun x H1 => ∃ (l : Addr) (ns : List Int), x = .ref l ∧ SqL K H1 l (ns.map V.int) ∧ ns.length ≤ 4000 ∧ ∀ ds : List Int, ds.Nodup → (∀ k, k ∈ ds ↔ k ∈ ns) → Q (.int (ds.length : Nat)) H1
theorem firstMet_nd (val : Nat → Int) : ∀ i, (PyProof.Rows.firstMet val i).Nodup
  | 0 => List.nodup_nil
  | i + 1 => by
    rw [PyProof.Rows.firstMet_succ]
    unfold PyProof.Rows.step_dedup
    split
    · exact firstMet_nd val i
    · rename_i h
      rw [List.nodup_append]
      refine ⟨firstMet_nd val i, List.nodup_cons.mpr ⟨List.not_mem_nil, List.nodup_nil⟩, fun a ha b hb e => h (List.any_eq_true.mpr ⟨a, ha, ?_⟩)⟩
      rw [List.mem_singleton] at hb
      rw [e, hb]
      exact beq_self_eq_true _
theorem firstMet_mem (ns : List Int) (k : Int) : k ∈ PyProof.Rows.firstMet (fun i => ns.getD i 0) ns.length ↔ k ∈ ns := by
  have h := PyProof.Rows.firstMet_any (fun i => ns.getD i 0) ns.length k
  have e : (List.range ns.length).map (fun i => ns.getD i 0) = ns := by
    apply List.ext_getElem
    · rw [List.length_map, List.length_range]
    · intro i h1 h2
      rw [List.getElem_map, List.getElem_range, List.getD_eq_getElem?_getD, List.getElem?_eq_getElem h2]
      rfl
  rw [e] at h
  have mem : ∀ l : List Int, l.any (· == k) = true ↔ k ∈ l := fun l => by
    rw [List.any_eq_true]
    constructor
    · rintro ⟨x, hx, e⟩
      rw [← eq_of_beq e]
      exact hx
    · intro hk
      exact ⟨k, hk, beq_self_eq_true k⟩
  rw [← mem, ← mem, h]
theorem pe_lenSetS {X : Cx} {K : PySem.W.Frag} {a : Expr} {ta : TE} {p p2 q pos : Pos} (hg : Gl X "len") (hm : X.mg "len" = none) (hg2 : Gl X "set") (hm2 : X.mg "set" = none) (ha : PE X a ta) (hc : X.calm = true := by rfl)
    (na : starEach [a] X.env = (false, eval a X.env) :: starEach [] X.env := by rfl) (hK : X.K = K := by rfl) : PE X (.Call (.Name "len" p) [.Call (.Name "set" p2) [a] [] q] [] pos) (tLenSetS K ta) := by
  subst hK
  refine ⟨fun pins s σ H Q I h => ?_⟩
  refine Call_ (ld_blt I hg hm boot_len ?_)
  refine PyProof.Rows.callWith_builtin1 (PyProof.Rows.args_cons ?_ rfl) rfl rfl
  refine Call_ (ld_blt I hg2 hm2 boot_set ?_)
  refine PyProof.Rows.callWith_type1 (PyProof.Rows.args_cons (thn (ha.run pins s σ H _ I h) fun v s1 ⟨x, H1, I1, r1, q1⟩ => PyProof.Rows.args_nil ?_) na) na rfl
  obtain ⟨l, ns, rfl, hq, hl, q1⟩ := q1
  cases r1
  obtain ⟨its, r, pl, hz⟩ := I1.list hq
  have hlen : its.toArray.size = ns.length := by rw [List.size_toArray, ← r.length, List.length_map]
  refine call_set_list (I1.ok.hd hc) pl.isList (by simpa using RZ.intsAre_vals r) (by rw [hlen]; unfold scanBound; omega) fun h' tk hS hk => ?_
  refine PyProof.Rows.args_nil ?_
  rw [hlen] at hS
  have hlt := PyProof.Rows.firstMet_length_le (fun i => ns.getD i 0) ns.length
  have q2 := q1 (PyProof.Rows.firstMet (fun i => ns.getD i 0) ns.length) (firstMet_nd _ _) (firstMet_mem ns)
  generalize PyProof.Rows.firstMet (fun i => ns.getD i 0) ns.length = D at hS hlt q2
  obtain ⟨o, es, ep, t, ho, hex, hd, _, _, _, hf, hn⟩ := hS
  have I2 : Inv X pins σ H1 { s1 with heap := h', toks := tk } := I1.kept fun b o e => hk b o (Heap.lt_size e) e
  exact call_len_set ho hex hd hf (by rw [hn] <;> omega) ⟨.int D.length, H1, I2.tok _, ⟨_, by rw [hn]⟩, q2⟩
theorem eqV_int (a n : Int) : eqV (.int a) (.int n) = decide (a = n) := by
  unfold eqV
  rfl
theorem idx_at {D : List Int} {z : Int} (h : z ∈ D) : D[D.idxOf z]? = some z := by
  have hx := List.idxOf_lt_length_of_mem h
  rw [List.getElem?_eq_getElem hx, List.getElem_idxOf]
theorem idx_ne {D : List Int} {z : Int} (m : Nat) (hm : m < D.idxOf z) : D[m]? ≠ some z := fun e => by
  obtain ⟨h1, h2⟩ := List.getElem?_eq_some_iff.mp e
  have := List.not_of_lt_findIdx (p := (· == z)) (xs := D) (i := m) hm
  simp [h2] at this
/-! ### things that stay -/
inductive Th (K : PySem.W.Frag) (H : Hp) : V → String → Prop
  | int (i : Int) : Th K H (.int i) "int"
  | bl (b : Bool) : Th K H (.bl b) "bool"
  | non : Th K H .non "NoneType"
  | str (z : Str) : Th K H (.str z) "str"
  | lst {a : Addr} {xs : List V} (h : SqL K H a xs) : Th K H (.ref a) "list"
  | tup {a : Addr} {xs : List V} (h : SqT K H a xs) : Th K H (.ref a) "tuple"
  | dK {a : Addr} {xs : List (Key × V)} (h : H a = some (.dK xs)) : Th K H (.ref a) "dict"
theorem Th.thg {K : PySem.W.Frag} {H : Hp} {x : V} {T : String} (t : Th K H x T) : Thg K H x T := by
  cases t with
  | int i => exact thg_int
  | bl b => exact thg_bl
  | non => exact thg_non
  | str z => exact thg_str
  | lst h => exact thg_seq h
  | tup h => exact thg_tup h
  | dK h => exact thg_dK h
theorem Th.same {K : PySem.W.Frag} {H H' : Hp} {x : V} {T : String} (t : Th K H x T) (s : Same H H') : Th K H' x T := by
  cases t with
  | int i => exact .int i
  | bl b => exact .bl b
  | non => exact .non
  | str z => exact .str z
  | lst h => exact .lst (s.seq h)
  | tup h => exact .tup (Same.seqT s h)
  | dK h => exact .dK (s _ _ h)
theorem cut_last (xs : List V) : cutV xs (some (-1)) none = xs.drop (xs.length - 1) := by
  unfold cutV HT.sIx
  dsimp only
  rw [if_pos (by decide), show (-1 + (xs.length : Int)).toNat = xs.length - 1 by omega, List.take_of_length_le (by rw [List.length_drop]; omega)]
theorem tDNewK_n : tDNewK = fun _ H Q => New H (.dK []) fun p H2 => Q (.ref p) H2 := rfl
def rStrI : List V → Hp → VK → Prop := fun xs H Q => ∃ i : Int, xs = [.int i] ∧ i.natAbs.log2 < 1920 ∧ Q (.str (toString i)) H
theorem call_strI {X : Cx} : CallR X (.type "str") rStrI := call_str_int
end Rb

set_option Elab.async false
set_option linter.all false
set_option pp.deepTerms true
set_option pp.maxSteps 100000
set_option format.indent 1
set_option format.width 260
set_option maxRecDepth 100000
set_option maxHeartbeats 4000000
namespace K51
open PySem PySem.Spec PyProof.Rows L2 Rb
def topS (i : Nat) : Stmt := PySem.Challenge.pw_roomslaid_k51_fetches_forged.main.body.getD i (.Pass ⟨0, 0, 0, 0⟩)
abbrev s_wall : Stmt := topS 0
abbrev s_NoLine_init : Stmt := inClass (topS 3) 0
abbrev s_NoKeep_init : Stmt := inClass (topS 4) 0
abbrev s_is_whole : Stmt := topS 6
abbrev s_is_within : Stmt := topS 7
abbrev s_need_line : Stmt := topS 10
abbrev s_need_lines : Stmt := topS 11
abbrev s_need_bound : Stmt := topS 12
abbrev s_Kept_init : Stmt := inClass (topS 13) 0
abbrev s_Kept_touch : Stmt := inClass (topS 13) 1
abbrev s_Kept_lines_kept : Stmt := inClass (topS 13) 2
abbrev s_is_fetch : Stmt := topS 14
abbrev s_is_fetches : Stmt := topS 15
abbrev s_law_drawn : Stmt := topS 17
abbrev s_law_lines : Stmt := topS 18
abbrev s_law_due : Stmt := topS 19
abbrev s_law_row : Stmt := topS 20
abbrev s_law_forged : Stmt := topS 21
abbrev s_law : Stmt := topS 22
theorem sc_wall : FnScope ["k"] ["k"] (defScope s_wall) := ⟨rfl, rfl, rfl, by decide +kernel, rfl, by decide +kernel, by decide +kernel⟩
theorem sc_NoLine_init : FnScope ["self", "found"] ["self", "found"] (defScope s_NoLine_init) := ⟨rfl, rfl, rfl, by decide +kernel, rfl, by decide +kernel, by decide +kernel⟩
theorem sc_NoKeep_init : FnScope ["self", "found"] ["self", "found"] (defScope s_NoKeep_init) := ⟨rfl, rfl, rfl, by decide +kernel, rfl, by decide +kernel, by decide +kernel⟩
theorem sc_is_whole : FnScope ["thing"] ["thing"] (defScope s_is_whole) := ⟨rfl, rfl, rfl, by decide +kernel, rfl, by decide +kernel, by decide +kernel⟩
theorem sc_is_within : FnScope ["thing", "low", "high"] ["thing", "low", "high"] (defScope s_is_within) := ⟨rfl, rfl, rfl, by decide +kernel, rfl, by decide +kernel, by decide +kernel⟩
theorem sc_need_line : FnScope ["line"] ["line"] (defScope s_need_line) := ⟨rfl, rfl, rfl, by decide +kernel, rfl, by decide +kernel, by decide +kernel⟩
theorem sc_need_lines : FnScope ["lines", "line"] ["lines"] (defScope s_need_lines) := ⟨rfl, rfl, rfl, by decide +kernel, rfl, by decide +kernel, by decide +kernel⟩
theorem sc_need_bound : FnScope ["most"] ["most"] (defScope s_need_bound) := ⟨rfl, rfl, rfl, by decide +kernel, rfl, by decide +kernel, by decide +kernel⟩
theorem sc_Kept_init : FnScope ["self", "most"] ["self", "most"] (defScope s_Kept_init) := ⟨rfl, rfl, rfl, by decide +kernel, rfl, by decide +kernel, by decide +kernel⟩
theorem sc_Kept_touch : FnScope ["self", "line", "out", "fetched"] ["self", "line"] (defScope s_Kept_touch) := ⟨rfl, rfl, rfl, by decide +kernel, rfl, by decide +kernel, by decide +kernel⟩
theorem sc_Kept_lines_kept : FnScope ["self"] ["self"] (defScope s_Kept_lines_kept) := ⟨rfl, rfl, rfl, by decide +kernel, rfl, by decide +kernel, by decide +kernel⟩
theorem sc_is_fetch : FnScope ["row", "line", "due"] ["row", "line", "due"] (defScope s_is_fetch) := ⟨rfl, rfl, rfl, by decide +kernel, rfl, by decide +kernel, by decide +kernel⟩
theorem sc_is_fetches : FnScope ["lines", "most", "thing", "store", "line", "row"] ["lines", "most", "thing"] (defScope s_is_fetches) := ⟨rfl, rfl, rfl, by decide +kernel, rfl, by decide +kernel, by decide +kernel⟩
theorem sc_law_drawn : FnScope ["_law_cell", "_law_sizes", "_law_found", "_law_many", "_law_one", "_law_other"] ["_law_cell", "_law_sizes"] (defScope s_law_drawn) := ⟨rfl, rfl, rfl, by decide +kernel, rfl, by decide +kernel, by decide +kernel⟩
theorem sc_law_lines : FnScope ["_law_script", "_law_found", "_law_cell", "_law_draws", "_law_k"] ["_law_script"] (defScope s_law_lines) := ⟨rfl, rfl, rfl, by decide +kernel, rfl, by decide +kernel, by decide +kernel⟩
theorem sc_law_due : FnScope ["_law_lines_here", "_law_most", "_law_had", "_law_found", "_law_line", "_law_fetched", "_law_out", "_law_other"] ["_law_lines_here", "_law_most"] (defScope s_law_due) := ⟨rfl, rfl, rfl, by decide +kernel, rfl, by decide +kernel, by decide +kernel⟩
theorem sc_law_row : FnScope ["_law_way", "_law_row_here", "_law_line", "_law_fetched", "_law_out"] ["_law_way", "_law_row_here"] (defScope s_law_row) := ⟨rfl, rfl, rfl, by decide +kernel, rfl, by decide +kernel, by decide +kernel⟩
theorem sc_law_forged : FnScope ["_law_way", "_law_at", "_law_due_here", "_law_lines_here", "_law_most", "_law_other"] ["_law_way", "_law_at", "_law_due_here", "_law_lines_here", "_law_most"] (defScope s_law_forged) := ⟨rfl, rfl, rfl, by decide +kernel, rfl, by decide +kernel, by decide +kernel⟩
theorem sc_law : FnScope ["_law_script", "_law_lines_here", "_law_draws", "_law_most", "_law_due_here", "_law_handed", "_law_good", "_law_k", "_law_thing"] ["_law_script"] (defScope s_law) := ⟨rfl, rfl, rfl, by decide +kernel, rfl, by decide +kernel, by decide +kernel⟩
local macro_rules | `(tactic| walk_at "rd") => `(tactic| simp only [L2.start, cxOf, tSeq, tAsg, tIfS, tTest, tB, tOp, tUn, tVar, tC, tCB, tCons, tNil, tRet, tRetN, tNext, tDrop, tBM, tBM0, tLst_n, tTup_n, tAnd, tOr, tNot, tAndV, tOrV, tNotV, tIf, tChain, tCall, gName, gTup, gCons, gNil, gUnl, gSub, rI, rI0, rU, rIxL, rIxT, rSlL_n, tSl, tPart, tNoPart, rCatR, rAppend_n, rExtend_n, rPop_n, rClear_n, rSetL_n, rInsert, rRemI_n, tMake_n, sFld_n, tFld, tMeth, rIn, tFor_n, tLc_n, iRngL1, iRngL2, iList, iTup, iRev, iZip, rDivmod, rListOf, rTupOf, rLenSeq, rMin2, rMax2, rAll, rAny, rIsi, tNever, tYes, wipe, tAug, ipI, rEq, rNe, tIsN, tNotN, tDNewK_n, rStrI, rIsB, rNotB, rSlT, rIndex, rRep_n, rInt1, tLenSetS, scal_ii, scal_bb, scal_ss, scal_nn, scal_ni, scal_in, scal_ns, scal_sn, scal_is, scal_si,
  List.map_cons, List.map_nil, List.length_cons, List.length_nil, List.replicate, List.nil_append, List.cons_append, List.append_nil, List.getElem?_cons_zero, List.getElem?_cons_succ, List.set_cons_zero, List.set_cons_succ, List.set_nil, Nat.reduceAdd, Nat.reduceSub,
  Option.some.injEq, V.int.injEq, V.ref.injEq, V.bl.injEq, V.str.injEq, V.ty.injEq, List.cons.injEq, and_assoc, and_true, true_and, exists_eq_left, exists_eq_left', exists_and_left, exists_and_right, exists_eq, exists_eq', exists_eq_right, exists_eq_right', if_true, if_false, Bool.false_eq_true, Bool.not_true, Bool.not_false, if_pos, Int.toNat_natCast, decide_eq_true_eq, Bool.not_eq_true', decide_eq_false_iff_not, reduceCtorEq, false_and, and_false, exists_false, exists_const])
local macro_rules | `(tactic| walk_at "ex") => `(tactic| repeat' (first | assumption | (with_reducible refine Exists.intro _ ?_) | (with_reducible refine And.intro ?_ ?_) | rfl))

/-! ### the law's draws -/
def Drawn : List Int → List Int → Prop := Paired fun m v => 0 ≤ v ∧ v < m
theorem Drawn.snoc {m v : Int} : ∀ {ms vs : List Int}, Drawn ms vs → 0 ≤ v ∧ v < m → Drawn (ms ++ [m]) (vs ++ [v])
  | _, _, .nil, h => .cons h .nil
  | _, _, .cons r t, h => .cons r (Drawn.snoc t h)
theorem Drawn.len {ms vs : List Int} (d : Drawn ms vs) : ms.length = vs.length := Paired.length d
def spDrawn (K : PySem.W.Frag) : Sp := fun vs H Q _ => ∃ (z : Int) (b : Addr) (ms : List Int), vs = [.int z, .ref b] ∧ SqL K H b (ms.map V.int) ∧ (∀ m ∈ ms, 0 < m ∧ m < 2 ^ 200) ∧ ms.length ≤ 100 ∧
  ∀ p H1 ws, H p = none → Same H H1 → H1 p = some (.lst (ws.map V.int)) → Drawn ms ws → Q (.ref p) H1
section
variable {P : Program} {w : World} {K : PySem.W.Frag} {mg : Str → Option Value} {base : Heap}
theorem ok_drawn {f : Addr} {fd : FuncData} (F : Fun K "_law_drawn" "_law_drawn" s_law_drawn f fd) : FnOk P w K mg base CX0 1 f fd ["_law_cell", "_law_sizes"] (spDrawn K) := by
  refine F.ok sc_law_drawn (fun vs H Q E h => ?_) (fun cdv A outer s H vs Q E hr h => ?_)
  · obtain ⟨z, b, ms, rfl, _⟩ := h
    rfl
  · obtain ⟨z, b, ms, rfl, hS, hm, hl, q⟩ := h
    refine ⟨_, (pss_cons (ps_set (i := 2) sc_law_drawn.nd rfl (by first | exact Or.inl rfl | exact Or.inr rfl) (pe_lst pa_nil))
      (pss_cons (ps_if (pt_cmpR op_ge (pv 0) (pe_op op_pow pe_int pe_int) (nomark _)) (pss_cons (ps_for PassesOwn.never rfl (pi_listK (pv 1) (K := K)) (pg_name (i := 3) sc_law_drawn.nd rfl (by first | exact Or.inl rfl | exact Or.inr rfl)) (pss_cons (ps_expr (pe_bmK (K := K) PySem.F.plainAttrs_list PySem.F.slot_list_append PySem.F.type_list_append mt_append (pv 2) (pa_cons (pe_op op_modN (pv 0) (pv 3)) pa_nil)))
      (pss_one (ps_set (i := 0) sc_law_drawn.nd rfl (by first | exact Or.inl rfl | exact Or.inr rfl) (pe_op op_fdivW (pv 0) (pv 3))))))
      (pss_one (ps_ret (pv 2)))) pss_nil)
      (pss_cons (ps_set (i := 4) sc_law_drawn.nd rfl (by first | exact Or.inl rfl | exact Or.inr rfl) (pe_op op_modN (pe_op op_add (pe_op op_mul (pv 0) pe_int) pe_int) pe_int))
      (pss_cons (ps_set (i := 5) sc_law_drawn.nd rfl (by first | exact Or.inl rfl | exact Or.inr rfl) (pe_op op_modN (pe_op op_add (pe_op op_mul (pv 0) pe_int) pe_int) pe_int))
      (pss_cons (ps_set (i := 4) sc_law_drawn.nd rfl (by first | exact Or.inl rfl | exact Or.inr rfl) (pe_op op_modN (pe_op op_add (pe_op op_add (pe_op op_mulX (pv 4) (pv 4)) (pe_op op_mul pe_int (pv 4))) pe_int) pe_int))
      (pss_cons (ps_for PassesOwn.never rfl (pi_listK (pv 1) (K := K)) (pg_name (i := 3) sc_law_drawn.nd rfl (by first | exact Or.inl rfl | exact Or.inr rfl)) (pss_cons (ps_set (i := 4) sc_law_drawn.nd rfl (by first | exact Or.inl rfl | exact Or.inr rfl) (pe_op op_modN (pe_op op_add (pe_op op_add (pe_op op_mulX (pv 4) (pv 4)) (pe_op op_mul pe_int (pv 4))) pe_int) pe_int))
      (pss_cons (ps_set (i := 5) sc_law_drawn.nd rfl (by first | exact Or.inl rfl | exact Or.inr rfl) (pe_op op_modN (pe_op op_add (pe_op op_add (pe_op op_mul (pv 5) pe_int) (pe_op op_mul pe_int (pe_op op_modN (pv 4) pe_int))) pe_int) pe_int))
      (pss_one (ps_expr (pe_bmK (K := K) PySem.F.plainAttrs_list PySem.F.slot_list_append PySem.F.type_list_append mt_append (pv 2) (pa_cons (pe_op op_modN (pe_op op_add (pe_op op_mul (pv 4) pe_int) (pv 5)) (pv 3)) pa_nil)))))))
      (pss_one (ps_ret (pv 2))))))))), ?_⟩
    walk_at "rd"
    refine ⟨by decide, New.intro fun p H1 np s1 h1 => ⟨⟨by decide, by decide, by decide⟩, ite2 (fun c => ?_) (fun c => ?_)⟩⟩
    · refine ⟨⟨_, s1.seq hS⟩, Loop.list (xs := ms.map V.int) (fun i σ H2 => ∃ y x1 x2 ws, σ = [some (.int y), some (.ref b), some (.ref p), x1, x2, none] ∧ Same H H2 ∧ H2 p = some (.lst (ws.map V.int)) ∧ Drawn (ms.take i) ws) ⟨z, none, none, [], rfl, s1, h1, .nil⟩ ?_ ?_ ?_⟩
      · rintro i σ H2 _ ⟨y, x1, x2, ws, rfl, s2, _⟩
        exact s2.seq hS
      · rintro i x σ H2 hx ⟨y, x1, x2, ws, rfl, s2, h2, dr⟩
        obtain ⟨m, hmi, rfl⟩ := int_at hx
        obtain ⟨m0, m1⟩ := hm m (List.mem_of_getElem? hmi)
        have dl := dr.len
        walk_at "rd"
        refine ⟨tyv_list (seq_of h2), by omega, _, h2, small1000 (by rw [List.length_map, ← dl, List.length_take]; omega), Upd.intro fun H3 o3 h3 => ⟨wide_div (b := 200) m0 (by omega) (by decide) (by decide), Same.off s2 np o3, ws ++ [y.fmod m], ?_, ?_⟩⟩
        · rw [h3, List.map_append]
          rfl
        · rw [take_snoc hmi]
          exact dr.snoc ⟨Int.fmod_nonneg_of_pos _ m0, Int.fmod_lt_of_pos _ m0⟩
      · rintro σ H2 ⟨y, x1, x2, ws, rfl, s2, h2, dr⟩
        walk_at "rd"
        rw [List.length_map, List.take_length] at dr
        exact q p H2 ws np s2 h2 dr
    · refine ⟨.inr ⟨by decide, by decide⟩, by decide, .inr ⟨by decide, by decide⟩, by decide, ?_⟩
      have p1 := Int.fmod_nonneg_of_pos (z * 48271 + 11) (show (0 : Int) < 2147483647 by decide)
      have p2 := Int.fmod_lt_of_pos (z * 48271 + 11) (show (0 : Int) < 2147483647 by decide)
      refine ⟨mulx_ok (a := 40) (b := 40) (by omega) (by omega) (by decide), .inl ⟨by decide, by decide⟩, by decide, ⟨_, s1.seq hS⟩, ?_⟩
      refine Loop.list (xs := ms.map V.int) (fun i σ H2 => ∃ x1 u v ws, σ = [some (.int z), some (.ref b), some (.ref p), x1, some (.int u), some (.int v)] ∧ (0 ≤ u ∧ u < 2147483647) ∧ Same H H2 ∧ H2 p = some (.lst (ws.map V.int)) ∧ Drawn (ms.take i) ws)
        ⟨none, _, _, [], rfl, ⟨Int.fmod_nonneg_of_pos _ (by decide), Int.fmod_lt_of_pos _ (by decide)⟩, s1, h1, .nil⟩ ?_ ?_ ?_
      · rintro i σ H2 _ ⟨x1, u, v, ws, rfl, _, s2, _⟩
        exact s2.seq hS
      · rintro i x σ H2 hx ⟨x1, u, v, ws, rfl, ⟨u0, u1⟩, s2, h2, dr⟩
        obtain ⟨m, hmi, rfl⟩ := int_at hx
        obtain ⟨m0, m1⟩ := hm m (List.mem_of_getElem? hmi)
        have dl := dr.len
        walk_at "rd"
        refine ⟨mulx_ok (a := 40) (b := 40) (by omega) (by omega) (by decide), .inl ⟨by decide, by decide⟩, by decide, .inr ⟨by decide, by decide⟩, by decide, .inl ⟨by decide, by decide⟩, by decide, tyv_list (seq_of h2), .inr ⟨by decide, by decide⟩, by omega, _, h2,
          small1000 (by rw [List.length_map, ← dl, List.length_take]; omega), Upd.intro fun H3 o3 h3 => ⟨Int.fmod_nonneg_of_pos _ (by decide), Int.fmod_lt_of_pos _ (by decide), Same.off s2 np o3, ?_⟩⟩
        have fin : ∀ y : Int, 0 ≤ y → y < m → H3 p = some (.lst (ws.map V.int ++ [.int y])) → ∃ ws' : List Int, H3 p = some (.lst (ws'.map V.int)) ∧ Drawn (ms.take (i + 1)) ws' := fun y y0 y1 e =>
          ⟨ws ++ [y], by rw [e, List.map_append]; rfl, by rw [take_snoc hmi]; exact dr.snoc ⟨y0, y1⟩⟩
        exact fin _ (Int.fmod_nonneg_of_pos _ m0) (Int.fmod_lt_of_pos _ m0) h3
      · rintro σ H2 ⟨x1, u, v, ws, rfl, _, s2, h2, dr⟩
        walk_at "rd"
        rw [List.length_map, List.take_length] at dr
        exact q p H2 ws np s2 h2 dr
end

/-! ### words.py -/
def isIn : V → Int → Int → Bool
  | .int i, lo, hi => decide (lo ≤ i) && decide (i ≤ hi)
  | _, _, _ => false
def spIsWhole (K : PySem.W.Frag) : Sp := fun vs H Q _ => ∃ (x : V) (T : String), vs = [x] ∧ Thg K H x T ∧ Q (.bl (isWh x)) H
def spIsWithin (K : PySem.W.Frag) : Sp := fun vs H Q _ => ∃ (x : V) (T : String) (lo hi : Int), vs = [x, .int lo, .int hi] ∧ Thg K H x T ∧ Q (.bl (isIn x lo hi)) H
section
variable {P : Program} {w : World} {K : PySem.W.Frag} {mg : Str → Option Value} {base : Heap}
theorem ok_isWhole {f : Addr} {fd : FuncData} (F : Fun K "is_whole" "is_whole" s_is_whole f fd) (z_isinstance : mg "isinstance" = none) (z_int : mg "int" = none) (z_bool : mg "bool" = none) : FnOk P w K mg base CX0 1 f fd ["thing"] (spIsWhole K) := by
  refine F.ok sc_is_whole (fun vs H Q E h => ?_) (fun cdv A outer s H vs Q E hr h => ?_)
  · obtain ⟨x, T, rfl, _⟩ := h
    rfl
  · obtain ⟨x, T, rfl, t, q⟩ := h
    refine ⟨_, (pss_one (ps_ret (pe_and (pe_callB (call_isiK' (K := K)) (by rfl) z_isinstance (by decide +kernel) (pa_cons (pv 0) (pa_cons (pe_bltn (v := V.ty "int") (u := Value.type "int") (by rfl) z_int (by decide +kernel) rfl) pa_nil))) (pe_one (pe_not (pe_callB (call_isiK' (K := K)) (by rfl) z_isinstance (by decide +kernel) (pa_cons (pv 0) (pa_cons (pe_bltn (v := V.ty "bool") (u := Value.type "bool") (by rfl) z_bool (by decide +kernel) rfl) pa_nil)))))))), ?_⟩
    walk_at "rd"
    have e := isWh_of t
    refine isiT t (by decide) (ite2 (fun c => isiT t (by decide) ?_) (fun c => ?_))
    · rw [c, Bool.true_and] at e
      rw [e]
      exact q
    · rw [Bool.eq_false_iff.mpr c, Bool.false_and] at e
      rw [e]
      exact q
theorem ok_isWithin {f : Addr} {fd : FuncData} (F : Fun K "is_within" "is_within" s_is_within f fd) (D_is_whole : Dn P w K mg base CX0 1 "is_whole" ["thing"] (spIsWhole K)) : FnOk P w K mg base CX0 2 f fd ["thing", "low", "high"] (spIsWithin K) := by
  refine F.ok sc_is_within (fun vs H Q E h => ?_) (fun cdv A outer s H vs Q E hr h => ?_)
  · obtain ⟨x, T, lo, hi, rfl, _⟩ := h
    rfl
  · obtain ⟨x, T, lo, hi, rfl, t, q⟩ := h
    refine ⟨_, (pss_one (ps_ret (pe_and (pe_cd D_is_whole (hr.mono (by decide)) (by rfl) pass0 (pa_cons (pv 0) pa_nil)) (pe_one (pe_chain op_le op_le (pv 1) (pv 0) (pv 2)))))), ?_⟩
    walk_at "rd"
    refine ⟨x, T, rfl, t, _, rfl, ?_⟩
    cases x with
    | int i =>
      have e : isIn (.int i) lo hi = (decide (lo ≤ i) && decide (i ≤ hi)) := rfl
      rw [e] at q
      refine iteT ⟨i, rfl, ite2 (fun c => ⟨i, rfl, ?_⟩) (fun c => ?_)⟩
      · rw [decide_eq_true c, Bool.true_and] at q
        exact q
      · rw [decide_eq_false c, Bool.false_and] at q
        exact q
    | _ => exact iteF q
end

/-! ### the mathematics: lines kept by last use -/
def dd : List Int → List Int
  | [] => []
  | x :: r => x :: (dd r).filter fun y => decide (y ≠ x)
theorem mem_dd {x : Int} : ∀ {ys : List Int}, x ∈ dd ys ↔ x ∈ ys
  | [] => Iff.rfl
  | y :: r => by
    show x ∈ y :: (dd r).filter _ ↔ _
    rw [List.mem_cons, List.mem_cons, List.mem_filter, mem_dd (ys := r), decide_eq_true_eq]
    by_cases h : x = y
    · simp [h]
    · simp [h]
theorem nd_dd : ∀ ys : List Int, (dd ys).Nodup
  | [] => List.nodup_nil
  | y :: r => by
    show (y :: (dd r).filter _).Nodup
    rw [List.nodup_cons]
    refine ⟨fun h => ?_, (nd_dd r).filter _⟩
    rw [List.mem_filter, decide_eq_true_eq] at h
    exact h.2 rfl
theorem dd_snoc (y : Int) : ∀ ys : List Int, dd (ys ++ [y]) = if y ∈ ys then dd ys else dd ys ++ [y]
  | [] => rfl
  | x :: r => by
    show x :: (dd (r ++ [y])).filter _ = _
    rw [dd_snoc y r]
    by_cases h : y ∈ r
    · rw [if_pos h, if_pos (List.mem_cons_of_mem _ h)]
      rfl
    · rw [if_neg h, List.filter_append]
      by_cases e : y = x
      · subst e
        rw [if_pos List.mem_cons_self]
        simp [dd]
      · rw [if_neg (by simp [h, e])]
        simp [dd, e]
theorem dd_pre (ys : List Int) : ∀ zs : List Int, ∃ W, dd (ys ++ zs) = dd ys ++ W := fun zs => by
  refine snocI (P := fun zs => ∃ W, dd (ys ++ zs) = dd ys ++ W) ⟨[], by simp⟩ (fun zs z ih => ?_) zs
  obtain ⟨W, e⟩ := ih
  rw [← List.append_assoc, dd_snoc, e]
  split
  · exact ⟨W, rfl⟩
  · exact ⟨W ++ [z], by rw [List.append_assoc]⟩
def touchL (B : Nat) (L : List Int) (n : Int) : List Int := n :: (if n ∈ L then L.erase n else if L.length = B then L.dropLast else L)
def outL (B : Nat) (L : List Int) (n : Int) : V := if n ∈ L then .non else if L.length = B then (match L.getLast? with | some z => .int z | none => .non) else .non
def rowL (B : Nat) (L : List Int) (n : Int) : List V := [.int n, .bl (!decide (n ∈ L)), outL B L n]
theorem filter_out {n : Int} {L : List Int} (h : n ∉ L) : L.filter (fun y => decide (y ≠ n)) = L := List.filter_eq_self.mpr fun y hy => decide_eq_true fun e => h (e ▸ hy)
theorem erase_take {n : Int} : ∀ {D : List Int} {B : Nat}, D.Nodup → n ∈ D.take B → (D.take B).erase n = (D.filter fun y => decide (y ≠ n)).take (B - 1)
  | [], B, _, h => by simp at h
  | x :: r, 0, _, h => by simp at h
  | x :: r, b + 1, nd, h => by
    have nx := (List.nodup_cons.mp nd).1
    by_cases e : x = n
    · subst e
      show ((x :: r.take b).erase x) = _
      rw [List.erase_cons_head, List.filter_cons_of_neg (by simp), filter_out nx]
      rfl
    · have h' : n ∈ r.take b := by
        rw [List.take_succ_cons, List.mem_cons] at h
        exact h.resolve_left fun z => e z.symm
      have ih := erase_take (List.nodup_cons.mp nd).2 h'
      rw [List.take_succ_cons, List.erase_cons_tail (by simpa using e), ih, List.filter_cons_of_pos (by simpa using e)]
      cases b with
      | zero => simp at h'
      | succ b => rfl
theorem touch_dd {B : Nat} (hB : 1 ≤ B) (ys : List Int) (n : Int) : touchL B ((dd ys).take B) n = (dd (n :: ys)).take B := by
  obtain ⟨b, rfl⟩ : ∃ b, B = b + 1 := ⟨B - 1, by omega⟩
  show n :: _ = (n :: (dd ys).filter _).take (b + 1)
  rw [List.take_succ_cons]
  congr 1
  by_cases h : n ∈ (dd ys).take (b + 1)
  · rw [if_pos h, erase_take (nd_dd ys) h]
    rfl
  · rw [if_neg h]
    have key : ((dd ys).filter fun y => decide (y ≠ n)).take b = (dd ys).take b := by
      conv => lhs; rw [← List.take_append_drop (b + 1) (dd ys)]
      rw [List.filter_append, filter_out h, List.take_append, List.take_take]
      by_cases hl : (dd ys).length ≤ b
      · have e1 : (dd ys).drop (b + 1) = [] := List.drop_eq_nil_of_le (by omega)
        rw [e1]
        simp
      · have e2 : b - ((dd ys).take (b + 1)).length = 0 := by
          rw [List.length_take]
          omega
        rw [e2, List.take_zero, List.append_nil, Nat.min_eq_left (by omega)]
    rw [key]
    by_cases hl : ((dd ys).take (b + 1)).length = b + 1
    · rw [if_pos hl, List.dropLast_eq_take, hl, List.take_take]
      congr 1
      omega
    · rw [if_neg hl]
      rw [List.length_take] at hl
      rw [List.take_of_length_le (by omega), List.take_of_length_le (by omega)]
/-- what is kept, and the rows, behind some touches -/
def stepK (B : Nat) (s : List Int × List (List V)) (n : Int) : List Int × List (List V) := (touchL B s.1 n, s.2 ++ [rowL B s.1 n])
def runK (B : Nat) (xs : List Int) : List Int × List (List V) := xs.foldl (stepK B) ([], [])
theorem runK_snoc (B : Nat) (xs : List Int) (n : Int) : runK B (xs ++ [n]) = stepK B (runK B xs) n := by
  unfold runK
  rw [List.foldl_append]
  rfl
def lastL (B : Nat) (xs : List Int) : List Int := (dd xs.reverse).take B
theorem runK_last {B : Nat} (hB : 1 ≤ B) (xs : List Int) : (runK B xs).1 = lastL B xs := by
  refine snocI (P := fun xs => (runK B xs).1 = lastL B xs) (by simp [runK, lastL, dd]) (fun xs n ih => ?_) xs
  rw [runK_snoc]
  show touchL B (runK B xs).1 n = _
  rw [ih]
  unfold lastL
  rw [touch_dd hB, List.reverse_append]
  rfl
theorem runK_rows_len (B : Nat) (xs : List Int) : (runK B xs).2.length = xs.length := by
  refine snocI (P := fun xs => (runK B xs).2.length = xs.length) rfl (fun xs n ih => ?_) xs
  rw [runK_snoc]
  show ((runK B xs).2 ++ [_]).length = _
  rw [List.length_append, List.length_append, ih]
  rfl
theorem lastL_len (B : Nat) (xs : List Int) : (lastL B xs).length ≤ B := by
  unfold lastL
  rw [List.length_take]
  exact Nat.min_le_left _ _

/-! ### kept.py -/
def KeptAt (C : Addr) (H : Hp) (p d : Addr) (B : Nat) (L : List Int) : Prop := (∃ dx, H p = some (.ins C dx [("bound", .int (B : Int)), ("had", .ref d)])) ∧ H d = some (.lst (L.map V.int))
theorem KeptAt.same {C : Addr} {H H' : Hp} {p d : Addr} {B : Nat} {L : List Int} (k : KeptAt C H p d B L) (s : Same H H') : KeptAt C H' p d B L := let ⟨⟨dx, h⟩, g⟩ := k; ⟨⟨dx, s _ _ h⟩, s _ _ g⟩
theorem nbh : (("bound" : Str) == "had") = false := by decide +kernel
theorem nhb : (("had" : Str) == "bound") = false := by decide +kernel
theorem nbh' : ¬ (("bound" : Str) = "had") := by decide +kernel
theorem nf_bound {x y : V} : List.lookup (Str.ofString "bound") ([(Str.ofString "bound", x), (Str.ofString "had", y)] : List (Str × V)) = some x := lk0
theorem nf_had {x y : V} : List.lookup (Str.ofString "had") ([(Str.ofString "bound", x), (Str.ofString "had", y)] : List (Str × V)) = some y := lk1 nhb lk0
theorem nf_touch {x y : V} : List.lookup (Str.ofString "touch") ([(Str.ofString "bound", x), (Str.ofString "had", y)] : List (Str × V)) = none := lk1 (by decide +kernel) (lk1 (by decide +kernel) rfl)
theorem nf_kept {x y : V} : List.lookup (Str.ofString "lines_kept") ([(Str.ofString "bound", x), (Str.ofString "had", y)] : List (Str × V)) = none := lk1 (by decide +kernel) (lk1 (by decide +kernel) rfl)
theorem nf_put {x y : V} : putF "had" y [("bound", x)] = ([("bound", x), ("had", y)] : List (Str × V)) := putF1 nbh'
def spNeedLine : Sp := fun vs H Q _ => ∃ (n : Int), vs = [.int n] ∧ 0 ≤ n ∧ Q .non H
def spNeedLines (K : PySem.W.Frag) : Sp := fun vs H Q _ => ∃ (a : Addr) (ns : List Int), vs = [.ref a] ∧ SqL K H a (ns.map V.int) ∧ (∀ n ∈ ns, 0 ≤ n) ∧ Q .non H
def spNeedBound : Sp := fun vs H Q _ => ∃ (B : Nat), vs = [.int (B : Int)] ∧ 1 ≤ B ∧ B ≤ 32 ∧ Q .non H
def spKInit (C : Addr) : Sp := fun vs H Q _ => ∃ (p dx : Addr) (B : Nat), vs = [.ref p, .int (B : Int)] ∧ H p = some (.ins C dx []) ∧ 1 ≤ B ∧ B ≤ 32 ∧ ∀ d H1, Off p H H1 → H d = none → KeptAt C H1 p d B [] → Q .non H1
def spTouch (C : Addr) : Sp := fun vs H Q _ => ∃ (p d : Addr) (B : Nat) (L : List Int) (n : Int), vs = [.ref p, .int n] ∧ KeptAt C H p d B L ∧ 0 ≤ n ∧ L.length ≤ B ∧ B ≤ 32 ∧ 1 ≤ B ∧
  ∀ t H1, H t = none → Off d H H1 → KeptAt C H1 p d B (touchL B L n) → H1 t = some (.tup [.bl (!decide (n ∈ L)), outL B L n]) → Q (.ref t) H1
section
variable {P : Program} {w : World} {K : PySem.W.Frag} {mg : Str → Option Value} {base : Heap}
theorem ok_needLine {f : Addr} {fd : FuncData} (F : Fun K "need_line" "need_line" s_need_line f fd) (D_is_whole : Dn P w K mg base CX0 1 "is_whole" ["thing"] (spIsWhole K)) : FnOk P w K mg base CX0 2 f fd ["line"] spNeedLine := by
  refine F.ok sc_need_line (fun vs H Q E h => ?_) (fun cdv A outer s H vs Q E hr h => ?_)
  · obtain ⟨n, rfl, _⟩ := h
    rfl
  · obtain ⟨n, rfl, h0, q⟩ := h
    refine ⟨_, (pss_one (ps_if (PW.pt (pw_or (pt_not (pt_val (pe_cd D_is_whole (hr.mono (by decide)) (by rfl) pass0 (pa_cons (pv 0) pa_nil)))) (pw_or1 (pt_cmpR op_lt (pv 0) pe_int (nomark _))))) (pss_one ps_never) pss_nil)), ?_⟩
    walk_at "rd"
    exact ⟨_, _, rfl, thg_int, _, rfl, iteN (fun h => by cases h) (iteN (by omega) q)⟩
theorem ok_needLines {f : Addr} {fd : FuncData} (F : Fun K "need_lines" "need_lines" s_need_lines f fd) (D_need_line : Dn P w K mg base CX0 2 "need_line" ["line"] spNeedLine) : FnOk P w K mg base CX0 3 f fd ["lines"] (spNeedLines K) := by
  refine F.ok sc_need_lines (fun vs H Q E h => ?_) (fun cdv A outer s H vs Q E hr h => ?_)
  · obtain ⟨a, ns, rfl, _⟩ := h
    rfl
  · obtain ⟨a, ns, rfl, hS, h0, q⟩ := h
    refine ⟨_, (pss_one (ps_for PassesOwn.never rfl (pi_listK (pv 0) (K := K)) (pg_name (i := 1) sc_need_lines.nd rfl (by first | exact Or.inl rfl | exact Or.inr rfl)) (pss_one (ps_expr (pe_cd D_need_line (hr.mono (by decide)) (by rfl) pass0 (pa_cons (pv 1) pa_nil)))))), ?_⟩
    walk_at "rd"
    refine ⟨⟨_, hS⟩, Loop.list (xs := ns.map V.int) (fun i σ H1 => ∃ y, H1 = H ∧ σ = [some (.ref a), y]) ⟨none, rfl, rfl⟩ ?_ ?_ ?_⟩
    · rintro i σ H1 _ ⟨y, rfl, rfl⟩
      exact hS
    · rintro i x σ H1 hx ⟨y, rfl, rfl⟩
      obtain ⟨z, hz, rfl⟩ := int_at hx
      walk_at "rd"
      exact ⟨z, rfl, h0 z (List.mem_of_getElem? hz), rfl⟩
    · rintro σ H1 ⟨y, rfl, rfl⟩
      exact q
theorem ok_needBound {f : Addr} {fd : FuncData} (F : Fun K "need_bound" "need_bound" s_need_bound f fd) (c_MOST_KEPT : ∃ t, mg "MOST_KEPT" = some (.int 32 t)) (D_is_within : Dn P w K mg base CX0 2 "is_within" ["thing", "low", "high"] (spIsWithin K)) : FnOk P w K mg base CX0 3 f fd ["most"] spNeedBound := by
  refine F.ok sc_need_bound (fun vs H Q E h => ?_) (fun cdv A outer s H vs Q E hr h => ?_)
  · obtain ⟨n, rfl, _⟩ := h
    rfl
  · obtain ⟨B, rfl, h0, h1, q⟩ := h
    refine ⟨_, (pss_one (ps_if (pt_not (pt_val (pe_cd D_is_within (hr.mono (by decide)) (by rfl) pass0 (pa_cons (pv 0) (pa_cons pe_int (pa_cons (pe_gi (by rfl) c_MOST_KEPT) pa_nil)))))) (pss_one ps_never) pss_nil)), ?_⟩
    walk_at "rd"
    refine ⟨_, _, _, _, rfl, thg_int, _, rfl, iteN ?_ q⟩
    show ¬ (decide ((1 : Int) ≤ B) && decide ((B : Int) ≤ 32)) = false
    rw [decide_eq_true (by omega), decide_eq_true (by omega)]
    decide
theorem ok_kInit {f C_Kept : Addr} {fd : FuncData} (F : Fun K "__init__" "Kept.__init__" s_Kept_init f fd) (K_Kept : Cls K C_Kept) (A_Kept_bound : NoAttr K C_Kept "bound") (A_Kept_had : NoAttr K C_Kept "had") (D_need_bound : Dn P w K mg base CX0 3 "need_bound" ["most"] spNeedBound) : FnOk P w K mg base CX0 4 f fd ["self", "most"] (spKInit C_Kept) := by
  refine F.ok sc_Kept_init (fun vs H Q E h => ?_) (fun cdv A outer s H vs Q E hr h => ?_)
  · obtain ⟨p, dx, B, rfl, _⟩ := h
    rfl
  · obtain ⟨p, dx, B, rfl, hp, h0, h1, q⟩ := h
    refine ⟨_, (pss_cons (ps_expr (pe_cd D_need_bound (hr.mono (by decide)) (by rfl) pass0 (pa_cons (pv 1) pa_nil)))
      (pss_cons (ps_fldK (pv 0) (pv 1) rfl (K := K))
      (pss_one (ps_fldK (pv 0) (pe_lst pa_nil) rfl (K := K))))), ?_⟩
    walk_at "rd"
    refine ⟨B, rfl, h0, h1, _, _, _, hp, K_Kept, A_Kept_bound, by show 0 < 1000; decide, Upd.intro fun H1 o1 hp1 => ⟨by decide, New.intro fun d H2 nd s2 h2 => ?_⟩⟩
    refine ⟨_, _, _, s2 _ _ hp1, K_Kept, A_Kept_had, by show 1 < 1000; decide, Upd.intro fun H3 o3 hp3 => ?_⟩
    have e : putF "had" (.ref d) (putF "bound" (.int (B : Int)) []) = ([("bound", .int (B : Int)), ("had", .ref d)] : List (Str × V)) := nf_put
    rw [e] at hp3
    have ndp : d ≠ p := fun e => by
      subst e
      rw [hp1] at nd
      cases nd
    exact q d H3 (o1.trans ((Off.of s2).trans o3)) (o1.none hp nd ⟨_, hp1⟩) ⟨⟨_, hp3⟩, o3 _ _ ndp h2⟩
theorem ok_touch {f C_Kept : Addr} {fd : FuncData} (F : Fun K "touch" "Kept.touch" s_Kept_touch f fd) (z_len : mg "len" = none) (K_Kept : Cls K C_Kept) (A_Kept_bound : NoAttr K C_Kept "bound") (A_Kept_had : NoAttr K C_Kept "had") (D_need_line : Dn P w K mg base CX0 2 "need_line" ["line"] spNeedLine) : FnOk P w K mg base CX0 3 f fd ["self", "line"] (spTouch C_Kept) := by
  refine F.ok sc_Kept_touch (fun vs H Q E h => ?_) (fun cdv A outer s H vs Q E hr h => ?_)
  · obtain ⟨p, d, B, L, n, rfl, _⟩ := h
    rfl
  · obtain ⟨p, d, B, L, n, rfl, ⟨⟨dx, hp⟩, hd⟩, h0, hl, hB, hB1, q⟩ := h
    refine ⟨_, (pss_cons (ps_expr (pe_cd D_need_line (hr.mono (by decide)) (by rfl) pass0 (pa_cons (pv 1) pa_nil)))
      (pss_cons (ps_set (i := 2) sc_Kept_touch.nd rfl (by first | exact Or.inl rfl | exact Or.inr rfl) pe_non)
      (pss_cons (ps_set (i := 3) sc_Kept_touch.nd rfl (by first | exact Or.inl rfl | exact Or.inr rfl) (pe_cmpR (op_notIn_seqK (K := K)) (pv 1) (pe_fldK (pv 0) rfl (K := K)) (by rfl)))
      (pss_cons (ps_if (pt_not (pt_val (pv 3))) (pss_one (ps_expr (pe_bmK (K := K) PySem.F.plainAttrs_list PySem.F.slot_list_remove PySem.F.type_list_remove mt_remove (pe_fldK (pv 0) rfl (K := K)) (pa_cons (pv 1) pa_nil)))) (pss_one (ps_if (pt_cmpR op_eq (pe_callB (call_lenR (K := K)) (by rfl) z_len (by decide +kernel) (pa_cons (pe_fldK (pv 0) rfl (K := K)) pa_nil)) (pe_fldK (pv 0) rfl (K := K)) (nomark _)) (pss_one (ps_set (i := 2) sc_Kept_touch.nd rfl (by first | exact Or.inl rfl | exact Or.inr rfl) (pe_bm0K (K := K) PySem.F.plainAttrs_list PySem.F.slot_list_pop PySem.F.type_list_pop mt_pop (pe_fldK (pv 0) rfl (K := K))))) pss_nil)))
      (pss_cons (ps_expr (pe_bmK (K := K) PySem.F.plainAttrs_list PySem.F.slot_list_insert PySem.F.type_list_insert mt_insertR (pe_fldK (pv 0) rfl (K := K)) (pa_cons pe_int (pa_cons (pv 1) pa_nil))))
      (pss_one (ps_ret (pe_tup (pa_cons (pv 3) (pa_cons (pv 2) pa_nil)))))))))), ?_⟩
    walk_at "rd"
    have ndp : p ≠ d := ne_of hp hd (by intro z; cases z)
    -- had.insert(0, line); return (fetched, out)
    have tail : ∀ (H1 : Hp) (M : List Int) (b : Bool) (o : V), Off d H H1 → H1 d = some (.lst (M.map V.int)) → n :: M = touchL B L n → b = !decide (n ∈ L) → o = outL B L n → M.length ≤ 40 →
        ∃ x x_1 x_2, H1 p = some (HO.ins x x_1 x_2) ∧ Cls K x ∧ NoAttr K x "had" ∧ ∃ x, List.lookup (Str.ofString "had") x_2 = some x ∧ tyV K "list" x H1 ∧ ∃ l, x = V.ref l ∧ ∃ x, H1 l = some (HO.lst x) ∧ x.length < sizeLine ∧ (0 : Int) ≤ 0 ∧ (0 : Int) < 2 ^ 63 ∧
          Upd H1 l (HO.lst (List.take (Int.toNat 0) x ++ [V.int n] ++ List.drop (Int.toNat 0) x)) fun H2 => 2 ≤ sizeLine ∧ New H2 (HO.tup [V.bl b, o]) fun p H2 => Q (V.ref p) H2 := fun H1 M b o o1 h1 eM eb eo hM => by
      refine ⟨_, _, _, o1 _ _ ndp hp, K_Kept, A_Kept_had, _, nf_had, tyv_list (seq_of h1), d, rfl, _, h1, sz100l (by rw [List.length_map]; omega), by decide, by decide, Upd.intro fun H2 o2 h2 => ⟨by decide, New.intro fun t H3 nt s3 h3 => ?_⟩⟩
      have o12 : Off d H H2 := o1.trans o2
      have e2 : List.take (Int.toNat 0) (M.map V.int) ++ [V.int n] ++ List.drop (Int.toNat 0) (M.map V.int) = (n :: M).map V.int := rfl
      rw [e2, eM] at h2
      rw [eb, eo] at h3
      refine q t H3 (o12.none hd nt ⟨_, h2⟩) (o12.trans (Off.of s3)) ⟨⟨dx, s3 _ _ (o12 _ _ ndp hp)⟩, s3 _ _ h2⟩ h3
    refine ⟨n, rfl, h0, _, _, _, hp, K_Kept, A_Kept_had, _, nf_had, d, rfl, _, .inl (seq_of hd), rfl, flat_ints L, ?_⟩
    rw [inV_int]
    by_cases hm : n ∈ L
    · have hx := List.idxOf_lt_length_of_mem hm
      rw [decide_eq_true hm]
      refine iteP rfl ⟨_, _, _, hp, K_Kept, A_Kept_had, _, nf_had, tyv_list (seq_of hd), d, rfl, L, hd, L.idxOf n, ?_, ?_, Upd.intro fun H1 o1 h1 => ?_⟩
      · rw [List.getElem?_eq_getElem hx, List.getElem_idxOf]
      · intro m hmx e
        have := List.getElem?_eq_some_iff.mp e
        obtain ⟨h1, h2⟩ := this
        have h3 : L.idxOf n ≤ m := by
          have := List.not_of_lt_findIdx (p := (· == n)) (xs := L) (i := m) hmx
          simp [h2] at this
        omega
      · rw [← List.erase_eq_eraseIdx_of_idxOf rfl] at h1
        refine tail H1 (L.erase n) _ _ o1 h1 ?_ (by rw [decide_eq_true hm]) ?_ ?_
        · unfold touchL
          rw [if_pos hm]
        · unfold outL
          rw [if_pos hm]
        · have := List.length_erase_le (a := n) (l := L)
          omega
    · rw [decide_eq_false hm]
      refine iteN (by decide) ⟨_, _, _, hp, K_Kept, A_Kept_had, _, nf_had, d, rfl, _, .inl (seq_of hd), _, _, _, hp, K_Kept, A_Kept_bound, _, nf_bound, rfl, ite2 (fun e => ?_) (fun e => ?_)⟩
      · have eB : L.length = B := by
          have := V.int.inj e
          rw [List.length_map] at this
          omega
        have hz : L[L.length - 1]? = some L[L.length - 1] := List.getElem?_eq_getElem (by omega)
        have hz2 : (L.map V.int)[(L.map V.int).length - 1]? = some (.int L[L.length - 1]) := by
          rw [List.length_map]
          exact at_int hz
        refine ⟨_, _, _, hp, K_Kept, A_Kept_had, _, nf_had, tyv_list (seq_of hd), d, rfl, _, hd, _, hz2, Upd.intro fun H1 o1 h1 => ?_⟩
        rw [← List.map_dropLast] at h1
        refine tail H1 L.dropLast _ _ o1 h1 ?_ (by rw [decide_eq_false hm]) ?_ (by rw [List.length_dropLast]; omega)
        · unfold touchL
          rw [if_neg hm, if_pos eB]
        · unfold outL
          rw [if_neg hm, if_pos eB, List.getLast?_eq_getElem?, hz]
      · have ne : ¬ L.length = B := fun h => e (by rw [List.length_map, h])
        refine tail H L _ _ (Off.refl H) hd ?_ (by rw [decide_eq_false hm]) ?_ (by omega)
        · unfold touchL
          rw [if_neg hm, if_neg ne]
        · unfold outL
          rw [if_neg hm, if_neg ne]
end

/-! ### the law's lines -/
theorem cutV_ints (ns : List Int) (lo hi : Option Int) : ∃ ms : List Int, cutV (ns.map V.int) lo hi = ms.map V.int ∧ (∀ m ∈ ms, m ∈ ns) ∧ ms.length ≤ ns.length := by
  unfold cutV
  refine ⟨(ns.drop _).take _, by rw [List.map_take, List.map_drop], fun m hm => List.mem_of_mem_drop (List.mem_of_mem_take hm), ?_⟩
  rw [List.length_take, List.length_drop]
  omega
def spLines (K : PySem.W.Frag) : Sp := fun vs H Q _ => ∃ (a : Addr) (ns : List Int), vs = [.ref a] ∧ SqL K H a (ns.map V.int) ∧ ns.length ≤ 63 ∧
  ∀ p H1 (xs : List Int), H p = none → Same H H1 → H1 p = some (.lst (xs.map V.int)) → (∀ x ∈ xs, (0 : Int) ≤ x) → xs.length ≤ 80 → Q (.ref p) H1
section
variable {P : Program} {w : World} {K : PySem.W.Frag} {mg : Str → Option Value} {base : Heap}
theorem ok_lines {f : Addr} {fd : FuncData} (F : Fun K "_law_lines" "_law_lines" s_law_lines f fd) (z_len : mg "len" = none) (z_range : mg "range" = none) (D_law_drawn : Dn P w K mg base CX0 1 "_law_drawn" ["_law_cell", "_law_sizes"] (spDrawn K)) : FnOk P w K mg base CX0 2 f fd ["_law_script"] (spLines K) := by
  refine F.ok sc_law_lines (fun vs H Q E h => ?_) (fun cdv A outer s H vs Q E hr h => ?_)
  · obtain ⟨a, ns, rfl, _⟩ := h
    rfl
  · obtain ⟨a, ns, rfl, hS, hl, q⟩ := h
    refine ⟨_, (pss_cons (ps_set (i := 1) sc_law_lines.nd rfl (by first | exact Or.inl rfl | exact Or.inr rfl) (pe_lst pa_nil))
      (pss_cons (ps_for PassesOwn.never rfl (pi_listK (pe_op (op_catS (K := K)) (pe_slice (sl_listK (K := K)) (pv 0) po_none (po_some pe_int)) (pe_lst (pa_cons (pe_callB (call_lenR (K := K)) (by rfl) z_len (by decide +kernel) (pa_cons (pv 0) pa_nil)) pa_nil))) (K := K)) (pg_name (i := 2) sc_law_lines.nd rfl (by first | exact Or.inl rfl | exact Or.inr rfl)) (pss_cons (ps_set (i := 3) sc_law_lines.nd rfl (by first | exact Or.inl rfl | exact Or.inr rfl) (pe_cd D_law_drawn (hr.mono (by decide)) (by rfl) pass0 (pa_cons (pv 2) (pa_cons (pe_lst (pa_cons pe_int (pa_cons pe_int (pa_cons pe_int (pa_cons pe_int (pa_cons (pe_op op_pow pe_int pe_int) pa_nil)))))) pa_nil))))
      (pss_one (ps_if (pt_cmpR op_lt (pe_ix (ix_listK (K := K)) (pv 3) pe_int (fun _ _ => rfl)) pe_int (nomark _)) (pss_one (ps_expr (pe_bmK (K := K) PySem.F.plainAttrs_list PySem.F.slot_list_append PySem.F.type_list_append mt_append (pv 1) (pa_cons (pe_ix (ix_listK (K := K)) (pv 3) pe_int (fun _ _ => rfl)) pa_nil)))) (pss_one (ps_if (pt_cmpR op_eq (pe_ix (ix_listK (K := K)) (pv 3) pe_int (fun _ _ => rfl)) pe_int (nomark _)) (pss_one (ps_expr (pe_bmK (K := K) PySem.F.plainAttrs_list PySem.F.slot_list_extend PySem.F.type_list_extend mt_extend (pv 1) (pa_cons (pe_lc (own := [("_law_k", 4)]) (g := gName 4) (tt := tYes) rfl sc_law_lines.nd (pi_rangeL1 (by rfl) z_range (pa_cons (pe_ix (ix_listK (K := K)) (pv 3) pe_int (fun _ _ => rfl)) pa_nil)) (blkOk_by (own := [("_law_k", 4)]) (N := ["_law_script", "_law_found", "_law_cell", "_law_draws", "_law_k"]) (sc := defScope s_law_lines) (by decide +kernel)) (fun _ _ _ _ _ => pg_name (i := 4) sc_law_lines.nd rfl (Or.inl rfl)) (fun _ _ _ _ _ => pts_nil) (fun _ _ _ _ _ => (pe_op op_add (pe_ix (ix_listK (K := K)) (pv 3) pe_int (fun _ _ => rfl)) (pv 4)))) pa_nil)))) (pss_one (ps_if (pt_cmpR op_eq (pe_ix (ix_listK (K := K)) (pv 3) pe_int (fun _ _ => rfl)) pe_int (nomark _)) (pss_one (ps_expr (pe_bmK (K := K) PySem.F.plainAttrs_list PySem.F.slot_list_extend PySem.F.type_list_extend mt_extend (pv 1) (pa_cons (pe_slice (sl_listK (K := K)) (pv 1) (po_some (pe_ix (ix_listK (K := K)) (pv 3) pe_int (fun _ _ => rfl))) (po_some (pe_op op_add (pe_ix (ix_listK (K := K)) (pv 3) pe_int (fun _ _ => rfl)) (pe_ix (ix_listK (K := K)) (pv 3) pe_int (fun _ _ => rfl))))) pa_nil)))) (pss_one (ps_if (pt_cmpR op_eq (pe_ix (ix_listK (K := K)) (pv 3) pe_int (fun _ _ => rfl)) pe_int (nomark _)) (pss_one (ps_expr (pe_bmK (K := K) PySem.F.plainAttrs_list PySem.F.slot_list_extend PySem.F.type_list_extend mt_extend (pv 1) (pa_cons (pe_lst (pa_cons (pe_op op_add (pe_ix (ix_listK (K := K)) (pv 3) pe_int (fun _ _ => rfl)) (pe_ix (ix_listK (K := K)) (pv 3) pe_int (fun _ _ => rfl))) (pa_cons (pe_ix (ix_listK (K := K)) (pv 3) pe_int (fun _ _ => rfl)) pa_nil))) pa_nil)))) (pss_one (ps_expr (pe_bmK (K := K) PySem.F.plainAttrs_list PySem.F.slot_list_extend PySem.F.type_list_extend mt_extend (pv 1) (pa_cons (pe_lc (own := [("_law_k", 4)]) (g := gName 4) (tt := tYes) rfl sc_law_lines.nd (pi_rangeL1 (by rfl) z_range (pa_cons (pe_ix (ix_listK (K := K)) (pv 3) pe_int (fun _ _ => rfl)) pa_nil)) (blkOk_by (own := [("_law_k", 4)]) (N := ["_law_script", "_law_found", "_law_cell", "_law_draws", "_law_k"]) (sc := defScope s_law_lines) (by decide +kernel)) (fun _ _ _ _ _ => pg_name (i := 4) sc_law_lines.nd rfl (Or.inl rfl)) (fun _ _ _ _ _ => pts_nil) (fun _ _ _ _ _ => (pv 4))) pa_nil))))))))))))))
      (pss_one (ps_ret (pe_slice (sl_listK (K := K)) (pv 1) po_none (po_some pe_int)))))), ?_⟩
    walk_at "rd"
    refine ⟨by decide, New.intro fun p H0 np s0 h0 => ⟨_, s0.seq hS, New.intro fun p1 H1 n1 s1 h1 => ⟨_, .inl ((s0.trans s1).seq hS), by decide, New.intro fun p2 H2 n2 s2 h2 => ⟨_, seq_of (s2 _ _ h1), _, seq_of h2, ?_, New.intro fun p3 H3 n3 s3 h3 => ?_⟩⟩⟩⟩
    · refine Nat.le_trans (Nat.add_le_add_right (cutV_length _ _ _) _) ?_
      rw [List.length_map]
      exact sz100 (by rw [List.length_singleton]; omega)
    rw [show (some 14 : Option Int) = some ((14 : Nat) : Int) from rfl, cut_to, ← List.map_take, List.length_map, show [V.int (ns.length : Int)] = [(ns.length : Int)].map V.int from rfl, ← List.map_append] at h3
    generalize hL : ns.take 14 ++ [(ns.length : Int)] = L at h3
    have hL15 : L.length ≤ 15 := by
      rw [← hL, List.length_append, List.length_take, List.length_singleton]
      omega
    clear hL
    have S03 : Same H0 H3 := s1.trans (s2.trans s3)
    refine ⟨⟨_, seq_of h3⟩, Loop.list (xs := L.map V.int) (fun i σ H' => ∃ (x1 x2 : Option V) (xs : List Int), σ = [some (.ref a), some (.ref p), x1, x2, none] ∧ Same H H' ∧ H' p3 = some (.lst (L.map V.int)) ∧ H' p = some (.lst (xs.map V.int)) ∧ (∀ x ∈ xs, (0 : Int) ≤ x) ∧ xs.length ≤ 50 * 2 ^ i)
      ⟨none, none, [], rfl, s0.trans S03, h3, S03 _ _ h0, fun x hx => (nomatch hx), Nat.zero_le _⟩ ?_ ?_ ?_⟩
    · rintro i σ H' _ ⟨x1, x2, xs, rfl, s', h3', _⟩
      exact seq_of h3'
    · rintro i x σ H' hx ⟨x1, x2, xs, rfl, s', h3', hp, h0', hlen⟩
      obtain ⟨z, hz, rfl⟩ := int_at hx
      have hi : i < L.length := (List.getElem?_eq_some_iff.mp hz).1
      walk_at "rd"
      refine ⟨⟨by decide, by decide, by decide⟩, by decide, New.intro fun b H4 nb s4 h4 => ⟨z, b, [6, 9, 12, 41, 10 ^ 29], rfl, seq_of h4, by decide, by decide, fun t H5 ws nt s5 h5 dr => ?_⟩⟩
      obtain ⟨w0, w1, w2, w3, w4, rfl, l0, l1, l2, l3, l4⟩ : ∃ w0 w1 w2 w3 w4 : Int, ws = [w0, w1, w2, w3, w4] ∧ (0 ≤ w0 ∧ w0 < 6) ∧ (0 ≤ w1 ∧ w1 < 9) ∧ (0 ≤ w2 ∧ w2 < 12) ∧ (0 ≤ w3 ∧ w3 < 41) ∧ (0 ≤ w4 ∧ w4 < 10 ^ 29) := by
        cases dr with | cons a0 dr => cases dr with | cons a1 dr => cases dr with | cons a2 dr => cases dr with | cons a3 dr => cases dr with | cons a4 dr =>
        cases dr
        exact ⟨_, _, _, _, _, rfl, a0, a1, a2, a3, a4⟩
      walk_at "rd"
      have T5 : SqL K H5 t [.int w0, .int w1, .int w2, .int w3, .int w4] := seq_of h5
      have np3 : p3 ≠ p := fun e => by
        subst e
        rw [s2 _ _ (s1 _ _ h0)] at n3
        cases n3
      have P5 : H5 p = some (.lst (xs.map V.int)) := s5 _ _ (s4 _ _ hp)
      have Q5 : H5 p3 = some (.lst (L.map V.int)) := s5 _ _ (s4 _ _ h3')
      have S5 : Same H H5 := s'.trans (s4.trans s5)
      have hpow : (2 : Nat) ^ i ≤ 2 ^ 15 := Nat.pow_le_pow_right (by decide) (by omega)
      have hone : 1 ≤ (2 : Nat) ^ i := Nat.one_le_two_pow
      have hpow2 : 50 * 2 ^ (i + 1) = 50 * 2 ^ i + 50 * 2 ^ i := by rw [Nat.pow_succ]; omega
      have end_ : ∀ (H6 H7 : Hp) (ys : List Int), Same H5 H6 → Off p H6 H7 → H7 p = some (.lst (xs.map V.int ++ ys.map V.int)) → (∀ y ∈ ys, (0 : Int) ≤ y) → ys.length ≤ 50 * 2 ^ i →
          Same H H7 ∧ H7 p3 = some (.lst (L.map V.int)) ∧ ∃ x : List Int, H7 p = some (.lst (x.map V.int)) ∧ (∀ y ∈ x, (0 : Int) ≤ y) ∧ x.length ≤ 50 * 2 ^ (i + 1) := fun H6 H7 ys s6 o7 h7 y0 yl => by
        refine ⟨Same.off (S5.trans s6) np o7, o7 _ _ np3 (s6 _ _ Q5), xs ++ ys, by rw [h7, List.map_append], fun y hy => (List.mem_append.mp hy).elim (h0' y) (y0 y), ?_⟩
        rw [List.length_append, hpow2]
        omega
      have ext : ∀ (H6 : Hp) (b : Addr) (ys : List Int), Same H5 H6 → H6 b = some (.lst (ys.map V.int)) → (∀ y ∈ ys, (0 : Int) ≤ y) → ys.length ≤ 50 * 2 ^ i →
          ∃ x, H6 p = some (.lst x) ∧ ∃ x5, H6 b = some (.lst x5) ∧ x.length + x5.length ≤ sizeLine ∧ Upd H6 p (.lst (x ++ x5)) fun H2 => Same H H2 ∧ H2 p3 = some (.lst (L.map V.int)) ∧ ∃ x : List Int, H2 p = some (.lst (x.map V.int)) ∧ (∀ y ∈ x, (0 : Int) ≤ y) ∧ x.length ≤ 50 * 2 ^ (i + 1) := fun H6 b ys s6 hb y0 yl =>
        ⟨_, s6 _ _ P5, _, hb, Nat.le_trans (show _ ≤ 4000000 by rw [List.length_map, List.length_map]; omega) (by decide), Upd.intro fun H7 o7 h7 => end_ H6 H7 ys s6 o7 h7 y0 yl⟩
      refine ⟨_, T5, _, rfl, _, rfl, ite2 (fun c0 => ?_) (fun c0 => ⟨_, T5, _, rfl, rfl, ite2 (fun c2 => ?_) (fun c2 => ⟨_, T5, _, rfl, rfl, ite2 (fun c3 => ?_) (fun c3 => ⟨_, T5, _, rfl, rfl, ite2 (fun c4 => ?_) (fun c4 => ?_)⟩)⟩)⟩)⟩
      · refine ⟨tyv_list (seq_of P5), _, T5, _, rfl, _, P5, Nat.lt_of_le_of_lt (show _ ≤ 4000000 by rw [List.length_map]; omega) (by decide), Upd.intro fun H7 o7 h7 => end_ H5 H7 [w1] (Same.refl H5) o7 h7 (fun y hy => by rw [List.mem_singleton.mp hy]; exact l1.1) (by show 1 ≤ _; omega)⟩
      · refine ⟨tyv_list (seq_of P5), _, T5, _, rfl, _, rfl, Cmp.pureR (fun k => .int (w1 + (k : Int))) (by omega) (fun _ => rfl) ?_ ?_⟩
        · intro j H6 R hj s6 hR
          walk_at "rd"
          refine ⟨_, s6.seq T5, _, rfl, _, rfl, ?_⟩
          rw [Int.zero_add]
          exact hR H6 (Same.refl H6)
        · intro l H6 nl s6 h6
          refine ⟨l, rfl, ext H6 l ((List.range w2.toNat).map fun (k : Nat) => w1 + (k : Int)) s6 (by rw [h6, List.map_map]; rfl) ?_ (by rw [List.length_map, List.length_range]; omega)⟩
          intro y hy
          obtain ⟨k, _, rfl⟩ := List.mem_map.mp hy
          omega
      · refine ⟨tyv_list (seq_of P5), _, T5, _, rfl, _, rfl, _, T5, _, rfl, _, T5, _, rfl, _, rfl, _, rfl, _, seq_of P5, New.intro fun l H6 nl s6 h6 => ?_⟩
        obtain ⟨ms, em, hm, lm⟩ := cutV_ints xs (some w1) (some (w1 + w2))
        rw [em] at h6
        exact ext H6 l ms s6 h6 (fun y hy => h0' y (hm y hy)) (by omega)
      · refine ⟨tyv_list (seq_of P5), _, T5, _, rfl, _, T5, _, rfl, _, rfl, _, rfl, _, T5, _, rfl, by decide, New.intro fun l H6 nl s6 h6 => ?_⟩
        refine ext H6 l [w4 + w1, w4] s6 h6 (fun y hy => ?_) (by show 2 ≤ _; omega)
        rcases List.mem_cons.mp hy with e | e
        · omega
        · rw [List.mem_singleton.mp e]
          exact l4.1
      · refine ⟨tyv_list (seq_of P5), _, T5, _, rfl, _, rfl, Cmp.pureR (fun k => .int (k : Int)) (by omega) (fun _ => rfl) ?_ ?_⟩
        · intro j H6 R hj s6 hR
          walk_at "rd"
          rw [Int.zero_add]
          exact hR H6 (Same.refl H6)
        · intro l H6 nl s6 h6
          refine ⟨l, rfl, ext H6 l ((List.range w3.toNat).map fun (k : Nat) => (k : Int)) s6 (by rw [h6, List.map_map]; rfl) ?_ (by rw [List.length_map, List.length_range]; omega)⟩
          intro y hy
          obtain ⟨k, _, rfl⟩ := List.mem_map.mp hy
          omega
    · rintro σ H' ⟨x1, x2, xs, rfl, s', h3', hp, h0', hlen⟩
      walk_at "rd"
      refine ⟨_, seq_of hp, New.intro fun u H6 nu s6 h6 => ?_⟩
      rw [show (some 80 : Option Int) = some ((80 : Nat) : Int) from rfl, cut_to, ← List.map_take] at h6
      exact q u H6 (xs.take 80) (s'.free nu) (s'.trans s6) h6 (fun x hx => h0' x (List.mem_of_mem_take hx)) (by rw [List.length_take]; omega)
end

/-! ### the mathematics -/
theorem pApp {α β : Type} {R : α → β → Prop} : ∀ {xs us : List α} {ys vs : List β}, Paired R xs ys → Paired R us vs → Paired R (xs ++ us) (ys ++ vs)
  | _, _, _, _, .nil, s => s
  | _, _, _, _, .cons r t, s => .cons r (pApp t s)
theorem pTake {α β : Type} {R : α → β → Prop} : ∀ {xs : List α} {ys : List β} (n : Nat), Paired R xs ys → Paired R (xs.take n) (ys.take n)
  | _, _, 0, _ => by
    rw [List.take_zero, List.take_zero]
    exact .nil
  | _, _, _ + 1, .nil => .nil
  | _, _, n + 1, .cons r t => .cons r (pTake n t)
theorem pDrop {α β : Type} {R : α → β → Prop} : ∀ {xs : List α} {ys : List β} (n : Nat), Paired R xs ys → Paired R (xs.drop n) (ys.drop n)
  | _, _, 0, h => h
  | _, _, _ + 1, .nil => .nil
  | _, _, n + 1, .cons r t => pDrop n t
theorem pAt {α β : Type} {R : α → β → Prop} : ∀ {xs : List α} {ys : List β} {i : Nat} {x : α}, Paired R xs ys → xs[i]? = some x → ∃ y, ys[i]? = some y ∧ R x y
  | _, _, _, _, .nil, e => by simp at e
  | _, _, 0, _, .cons r t, e => by
    cases e
    exact ⟨_, rfl, r⟩
  | _, _, i + 1, x, .cons r t, e => by
    obtain ⟨y, h1, h2⟩ := pAt (i := i) t (by simpa using e)
    exact ⟨y, by simpa using h1, h2⟩
theorem touch_flt {B : Nat} {L : List Int} {n : Int} (hB : 1 ≤ B) (nd : L.Nodup) (hl : L.length ≤ B) : n :: (L.filter fun y => decide (y ≠ n)).take (B - 1) = touchL B L n := by
  unfold touchL
  congr 1
  by_cases h : n ∈ L
  · rw [if_pos h, List.Nodup.erase_eq_filter nd]
    have e : (fun y : Int => decide (y ≠ n)) = fun y => y != n := by
      funext y
      by_cases g : y = n <;> simp [g]
    rw [e, ← List.Nodup.erase_eq_filter nd, List.take_of_length_le]
    have := List.length_erase_of_mem h
    omega
  · rw [if_neg h, filter_out h]
    split
    · rename_i e
      rw [List.dropLast_eq_take, e]
    · rw [List.take_of_length_le (by omega)]
def dues (B : Nat) (ns : List Int) : List (List V) := (runK B ns).2
theorem runK_pre (B : Nat) (xs ys : List Int) : ∃ W, (runK B (xs ++ ys)).2 = (runK B xs).2 ++ W := by
  refine snocI (P := fun ys => ∃ W, (runK B (xs ++ ys)).2 = (runK B xs).2 ++ W) ⟨[], by rw [List.append_nil, List.append_nil]⟩ (fun ys y ih => ?_) ys
  obtain ⟨W, e⟩ := ih
  rw [← List.append_assoc, runK_snoc]
  refine ⟨W ++ [rowL B (runK B (xs ++ ys)).1 y], ?_⟩
  rw [← List.append_assoc, ← e]
  rfl
theorem dues_snoc {B : Nat} (hB : 1 ≤ B) {ns : List Int} {i : Nat} {n : Int} (h : ns[i]? = some n) : dues B (ns.take (i + 1)) = dues B (ns.take i) ++ [rowL B (lastL B (ns.take i)) n] := by
  unfold dues
  rw [take_snoc h, runK_snoc, ← runK_last hB]
  rfl
theorem dues_len (B : Nat) (ns : List Int) : (dues B ns).length = ns.length := runK_rows_len B ns
theorem dues_at {B : Nat} (hB : 1 ≤ B) {ns : List Int} {i : Nat} {n : Int} (h : ns[i]? = some n) : (dues B ns)[i]? = some (rowL B (lastL B (ns.take i)) n) := by
  obtain ⟨W, e⟩ := runK_pre B (ns.take (i + 1)) (ns.drop (i + 1))
  rw [List.take_append_drop] at e
  have hi := (List.getElem?_eq_some_iff.mp h).1
  have e2 : dues B ns = dues B (ns.take i) ++ [rowL B (lastL B (ns.take i)) n] ++ W := by
    rw [← dues_snoc hB h]
    exact e
  have hl : (dues B (ns.take i)).length = i := by rw [dues_len, List.length_take]; omega
  rw [e2, List.append_assoc, List.getElem?_append_right (by omega), hl, Nat.sub_self]
  rfl
/-- a row as told: a line, whether fetched, what goes out -/
def RowF (d : List V) : Prop := ∃ (n : Int) (b : Bool) (o : V), d = [.int n, .bl b, o] ∧ (o = .non ∨ ∃ z, o = .int z)
theorem outL_or (B : Nat) (L : List Int) (n : Int) : outL B L n = .non ∨ ∃ z, outL B L n = .int z := by
  unfold outL
  split
  · exact .inl rfl
  · split
    · split
      · exact .inr ⟨_, rfl⟩
      · exact .inl rfl
    · exact .inl rfl
theorem dues_form (B : Nat) (ns : List Int) : ∀ d ∈ dues B ns, RowF d := by
  unfold dues
  refine snocI (P := fun xs => ∀ d ∈ (runK B xs).2, RowF d) (fun d hd => (nomatch hd)) (fun xs n ih => ?_) ns
  rw [runK_snoc]
  intro d hd
  rcases List.mem_append.mp hd with hd | hd
  · exact ih d hd
  · rw [List.mem_singleton.mp hd]
    exact ⟨n, _, _, rfl, outL_or _ _ _⟩
theorem rowF_pd {d : List V} (h : RowF d) : d.all isPd = true := by
  obtain ⟨n, b, o, rfl, ho⟩ := h
  rcases ho with rfl | ⟨z, rfl⟩ <;> rfl
theorem eqv_row {d e : List V} (hd : RowF d) (he : RowF e) : PyData.eqv (pdT d) (pdT e) = decide (d = e) := by
  obtain ⟨m, c, w, rfl, hw⟩ := hd
  obtain ⟨n, b, o, rfl, ho⟩ := he
  rcases hw with rfl | ⟨z, rfl⟩
  · rcases ho with rfl | ⟨y, rfl⟩
    · show ((m == n) && ((c == b) && (true && true))) = _
      by_cases h1 : m = n <;> by_cases h2 : c = b <;> simp [h1, h2]
    · show ((m == n) && ((c == b) && (false && true))) = _
      simp
  · rcases ho with rfl | ⟨y, rfl⟩
    · show ((m == n) && ((c == b) && (false && true))) = _
      simp
    · show ((m == n) && ((c == b) && ((z == y) && true))) = _
      by_cases h1 : m = n <;> by_cases h2 : c = b <;> by_cases h3 : z = y <;> simp [h1, h2, h3]
theorem eqvAll_rows : ∀ {ds es : List (List V)}, (∀ d ∈ ds, RowF d) → (∀ e ∈ es, RowF e) → PyData.eqvAll (ds.map pdT) (es.map pdT) = decide (ds = es)
  | [], [], _, _ => rfl
  | [], _ :: _, _, _ => rfl
  | _ :: _, [], _, _ => rfl
  | d :: ds, e :: es, hd, he => by
    show (PyData.eqv (pdT d) (pdT e) && PyData.eqvAll (ds.map pdT) (es.map pdT)) = _
    rw [eqv_row (hd d List.mem_cons_self) (he e List.mem_cons_self), eqvAll_rows (fun x hx => hd x (List.mem_cons_of_mem _ hx)) (fun x hx => he x (List.mem_cons_of_mem _ hx))]
    by_cases h1 : d = e <;> by_cases h2 : ds = es <;> simp [h1, h2]
theorem rows_pd {ds : List (List V)} (h : ∀ d ∈ ds, RowF d) : ∀ d ∈ ds, d.all isPd = true := fun d hd => rowF_pd (h d hd)
theorem ne_rows {K : PySem.W.Frag} {H : Hp} {a b : Addr} {xs ys : List V} {ds es : List (List V)} {Q : VK} (ha : SqL K H a xs) (hb : SqL K H b ys) (t : Tups K H xs ds) (u : Tups K H ys es) (hd : ∀ d ∈ ds, RowF d) (he : ∀ d ∈ es, RowF d) (q : Q (.bl (!decide (ds = es))) H) : rNeD K (.ref a) (.ref b) H Q :=
  ⟨_, _, .lst ha (dp_tups t (rows_pd hd)), .lst hb (dp_tups u (rows_pd he)), shaped_tups (rows_pd hd), shaped_tups (rows_pd he), by
    have e : PyData.eqv (.list (ds.map pdT)) (.list (es.map pdT)) = decide (ds = es) := eqvAll_rows hd he
    rw [e]
    exact q⟩
theorem eq_row {K : PySem.W.Frag} {H : Hp} {a b : Addr} {d e : List V} {Q : VK} (ha : SqT K H a d) (hb : SqT K H b e) (hd : RowF d) (he : RowF e) (q : Q (.bl (decide (d = e))) H) : rEqD K (.ref a) (.ref b) H Q :=
  ⟨_, _, dp_tup ha (rowF_pd hd), dp_tup hb (rowF_pd he), shaped_tup (rowF_pd hd), shaped_tup (rowF_pd he), by
    have h : PyData.eqv (.tuple (d.map pd)) (.tuple (e.map pd)) = decide (d = e) := eqv_row hd he
    rw [h]
    exact q⟩
/-! things handed in for rows, for the list of rows -/
inductive RD | tup (xs : List V) | other
def RowIs (K : PySem.W.Frag) (H : Hp) (y : V) : RD → Prop
  | .tup xs => ∃ a, y = .ref a ∧ SqT K H a xs ∧ ∀ z ∈ xs, ∃ T, Th K H z T
  | .other => ∃ T, Th K H y T ∧ T ≠ "tuple"
inductive TD | lst (rs : List RD) | other
def ThIs (K : PySem.W.Frag) (H : Hp) (x : V) : TD → Prop
  | .lst rs => ∃ l ys, x = .ref l ∧ SqL K H l ys ∧ Paired (RowIs K H) ys rs
  | .other => ∃ T, Th K H x T ∧ T ≠ "list"
theorem RowIs.same {K : PySem.W.Frag} {H H' : Hp} {y : V} {rd : RD} (h : RowIs K H y rd) (s : Same H H') : RowIs K H' y rd := by
  cases rd with
  | tup xs =>
    obtain ⟨a, e, ha, hz⟩ := h
    exact ⟨a, e, Same.seqT s ha, fun z hm => let ⟨T, t⟩ := hz z hm; ⟨T, t.same s⟩⟩
  | other =>
    obtain ⟨T, t, n⟩ := h
    exact ⟨T, t.same s, n⟩
theorem ThIs.same {K : PySem.W.Frag} {H H' : Hp} {y : V} {td : TD} (h : ThIs K H y td) (s : Same H H') : ThIs K H' y td := by
  cases td with
  | lst rs =>
    obtain ⟨l, ys, e, hl, hr⟩ := h
    exact ⟨l, ys, e, s.seq hl, Paired.mapP hr fun _ _ r => r.same s⟩
  | other =>
    obtain ⟨T, t, n⟩ := h
    exact ⟨T, t.same s, n⟩
theorem rowF_th {K : PySem.W.Frag} {H : Hp} {d : List V} (h : RowF d) : ∀ z ∈ d, ∃ T, Th K H z T := by
  obtain ⟨n, b, o, rfl, ho⟩ := h
  intro z hz
  simp only [List.mem_cons, List.not_mem_nil, or_false] at hz
  rcases hz with rfl | rfl | rfl
  · exact ⟨_, .int n⟩
  · exact ⟨_, .bl b⟩
  · rcases ho with rfl | ⟨y, rfl⟩
    · exact ⟨_, .non⟩
    · exact ⟨_, .int y⟩
theorem rows_are {K : PySem.W.Frag} {H : Hp} : ∀ {ys : List V} {ds : List (List V)}, Tups K H ys ds → (∀ d ∈ ds, RowF d) → Paired (RowIs K H) ys (ds.map RD.tup)
  | _, _, .nil, _ => .nil
  | _, _, .cons ⟨a, e, h⟩ t, hd => .cons ⟨a, e, h, rowF_th (hd _ List.mem_cons_self)⟩ (rows_are t fun d h => hd d (List.mem_cons_of_mem _ h))
def isBl : V → Bool
  | .bl _ => true
  | _ => false
theorem bl_of {K : PySem.W.Frag} {H : Hp} {x : V} {T : String} (t : Th K H x T) : kindIs T "bool" = isBl x := by
  cases t <;> rfl
/-! ### the promises -/
def spIsFetch (K : PySem.W.Frag) : Sp := fun vs H Q _ => ∃ (x : V) (n : Int) (t : Addr) (b : Bool) (o : V) (rd : RD), vs = [x, .int n, .ref t] ∧ RowIs K H x rd ∧ SqT K H t [.bl b, o] ∧ (o = .non ∨ ∃ z, o = .int z) ∧
  (∀ H1, Same H H1 → rd = .tup [.int n, .bl b, o] → Q (.bl true) H1) ∧ (∀ H1, Same H H1 → rd ≠ .tup [.int n, .bl b, o] → Q (.bl false) H1)
def spIsFetches (K : PySem.W.Frag) : Sp := fun vs H Q _ => ∃ (a : Addr) (ns : List Int) (B : Nat) (x : V) (td : TD), vs = [.ref a, .int (B : Int), x] ∧ SqL K H a (ns.map V.int) ∧ (∀ n ∈ ns, 0 ≤ n) ∧ ns.length ≤ 1000 ∧ 1 ≤ B ∧ B ≤ 32 ∧ ThIs K H x td ∧
  (∀ H1, Same H H1 → td = .lst ((dues B ns).map .tup) → Q (.bl true) H1) ∧ (∀ H1, Same H H1 → td ≠ .lst ((dues B ns).map .tup) → Q (.bl false) H1)
def spDue (K : PySem.W.Frag) : Sp := fun vs H Q _ => ∃ (a : Addr) (ns : List Int) (B : Nat), vs = [.ref a, .int (B : Int)] ∧ SqL K H a (ns.map V.int) ∧ ns.length ≤ 1000 ∧ 1 ≤ B ∧ B ≤ 40 ∧
  ∀ p H1 xs, H p = none → Same H H1 → H1 p = some (.lst xs) → Tups K H1 xs (dues B ns) → Q (.ref p) H1
def spRow (K : PySem.W.Frag) : Sp := fun vs H Q _ => ∃ (way : Int) (r : Addr) (n : Int) (b : Bool) (o : V), vs = [.int way, .ref r] ∧ 0 ≤ way ∧ way < 13 ∧ SqT K H r [.int n, .bl b, o] ∧ (o = .non ∨ ∃ z, o = .int z) ∧
  ∀ x H1 rd, Same H H1 → RowIs K H1 x rd → rd ≠ .tup [.int n, .bl b, o] → Q x H1
def spForged (K : PySem.W.Frag) : Sp := fun vs H Q _ => ∃ (way at_ : Int) (d a : Addr) (ys : List V) (ns : List Int) (B : Nat), vs = [.int way, .int at_, .ref d, .ref a, .int (B : Int)] ∧ 0 ≤ way ∧ way < 20 ∧ SqL K H d ys ∧ Tups K H ys (dues B ns) ∧ SqL K H a (ns.map V.int) ∧ ns.length ≤ 1000 ∧ 1 ≤ B ∧ B ≤ 32 ∧
  ∀ x H1 td, Same H H1 → ThIs K H1 x td → td ≠ .lst ((dues B ns).map .tup) → Q x H1
def spLaw (K : PySem.W.Frag) : Sp := fun vs H Q _ => ∃ (a : Addr) (ns : List Int), vs = [.ref a] ∧ SqL K H a (ns.map V.int) ∧ ns.length ≤ 63 ∧ ∀ H', Q (.bl true) H'
section
variable {P : Program} {w : World} {K : PySem.W.Frag} {mg : Str → Option Value} {base : Heap}
theorem ok_isFetch {f : Addr} {fd : FuncData} (F : Fun K "is_fetch" "is_fetch" s_is_fetch f fd) (z_isinstance : mg "isinstance" = none) (z_tuple : mg "tuple" = none) (z_bool : mg "bool" = none) (z_len : mg "len" = none) (D_is_whole : Dn P w K mg base CX0 1 "is_whole" ["thing"] (spIsWhole K)) : FnOk P w K mg base CX0 2 f fd ["row", "line", "due"] (spIsFetch K) := by
  refine F.ok sc_is_fetch (fun vs H Q E h => ?_) (fun cdv A outer s H vs Q E hr h => ?_)
  · obtain ⟨x, n, t, b, o, rd, rfl, _⟩ := h
    rfl
  · obtain ⟨x, n, t, b, o, rd, rfl, hR, hT, ho, q1, q2⟩ := h
    refine ⟨_, (pss_cons (ps_if (PW.pt (pw_or (pt_not (pt_val (pe_callB (call_isiK' (K := K)) (by rfl) z_isinstance (by decide +kernel) (pa_cons (pv 0) (pa_cons (pe_bltn (v := V.ty "tuple") (u := Value.type "tuple") (by rfl) z_tuple (by decide +kernel) rfl) pa_nil))))) (pw_or (pt_cmpR op_ne (pe_callB (call_lenR (K := K)) (by rfl) z_len (by decide +kernel) (pa_cons (pv 0) pa_nil)) pe_int (nomark _)) (pw_or (pt_not (pt_val (pe_cd D_is_whole (hr.mono (by decide)) (by rfl) pass0 (pa_cons (pe_ix (ix_tupK (K := K)) (pv 0) pe_int (fun _ _ => rfl)) pa_nil)))) (pw_or1 (pt_not (pt_val (pe_callB (call_isiK' (K := K)) (by rfl) z_isinstance (by decide +kernel) (pa_cons (pe_ix (ix_tupK (K := K)) (pv 0) pe_int (fun _ _ => rfl)) (pa_cons (pe_bltn (v := V.ty "bool") (u := Value.type "bool") (by rfl) z_bool (by decide +kernel) rfl) pa_nil)))))))))) (pss_one (ps_ret pe_bl)) pss_nil)
      (pss_cons (ps_if (PW.pt (pw_and (pt_cmpR op_notN (pe_ix (ix_tupK (K := K)) (pv 0) pe_int (fun _ _ => rfl)) pe_non (nomark _)) (pw_and1 (pt_not (pt_val (pe_cd D_is_whole (hr.mono (by decide)) (by rfl) pass0 (pa_cons (pe_ix (ix_tupK (K := K)) (pv 0) pe_int (fun _ _ => rfl)) pa_nil))))))) (pss_one (ps_ret pe_bl)) pss_nil)
      (pss_one (ps_ret (pe_cmpR (op_eqDK hr.units (K := K)) (pv 0) (pe_tup (pa_cons (pv 1) (pa_cons (pe_ix (ix_tupK (K := K)) (pv 2) pe_int (fun _ _ => rfl)) (pa_cons (pe_ix (ix_tupK (K := K)) (pv 2) pe_int (fun _ _ => rfl)) pa_nil)))) (nomark _)))))), ?_⟩
    walk_at "rd"
    have no := q2 H (Same.refl H)
    cases rd with
    | other =>
      obtain ⟨T, th, nT⟩ := hR
      refine isiT th.thg (by decide) (iteP ?_ (no (fun h => by cases h)))
      simp [kindIs, nT]
    | tup xs =>
      obtain ⟨a, rfl, ha, hz⟩ := hR
      refine isiT (thg_tup ha) (by decide) (iteN (by decide) ⟨a, rfl, xs, .inr ha, ite2 (fun l3 => ?_) (fun l3 => ?_)⟩)
      · refine no (fun h => l3 ?_)
        have e := RD.tup.inj h
        rw [e]
        rfl
      · obtain ⟨u, v, z, rfl⟩ : ∃ u v z, xs = [u, v, z] := by
          match xs, l3 with
          | [v, v1, v2], _ => exact ⟨v, v1, v2, rfl⟩
          | [], c => exact absurd (fun h => by cases h) c
          | [_], c => exact absurd (fun h => by cases h) c
          | [_, _], c => exact absurd (fun h => by cases h) c
          | _ :: _ :: _ :: _ :: r, c =>
            refine absurd (fun h => ?_) c
            simp only [List.length_cons] at h
            omega
        obtain ⟨T1, t1⟩ := hz u (by simp)
        obtain ⟨T2, t2⟩ := hz v (by simp)
        obtain ⟨T3, t3⟩ := hz z (by simp)
        have hne : ∀ {P : Prop}, ¬ P → (RD.tup [u, v, z] = RD.tup [.int n, .bl b, o] → P) → Q (.bl false) H := fun hP h => no (fun e => hP (h e))
        have inj : RD.tup [u, v, z] = RD.tup [.int n, .bl b, o] → u = .int n ∧ v = .bl b ∧ z = o := fun e => by
          have e2 := RD.tup.inj e
          simp only [List.cons.injEq, and_true] at e2
          exact e2
        have fin : ∀ (m : Int) (c : Bool), u = .int m → v = .bl c → (z = .non ∨ ∃ y, z = .int y) → ∃ x, SqT K H t x ∧ ∃ x_6, atI x 0 = some x_6 ∧ ∃ x, SqT K H t x ∧ ∃ x_7, atI x 1 = some x_7 ∧ 3 ≤ sizeLine ∧ New H (HO.tup [V.int n, x_6, x_7]) fun p H2 => rEqD K (V.ref a) (V.ref p) H2 Q := by
          rintro m c rfl rfl hz3
          refine ⟨_, hT, _, rfl, _, hT, _, rfl, by decide, New.intro fun p H2 np s2 h2 => ?_⟩
          refine eq_row (Same.seqT s2 ha) (seqT_of h2) ⟨_, _, _, rfl, hz3⟩ ⟨_, _, _, rfl, ho⟩ ?_
          by_cases e : [V.int m, V.bl c, z] = [V.int n, V.bl b, o]
          · rw [decide_eq_true e]
            exact q1 H2 s2 (congrArg RD.tup e)
          · rw [decide_eq_false e]
            exact q2 H2 s2 (fun h => e (RD.tup.inj h))
        refine ⟨a, rfl, _, ha, _, rfl, u, T1, rfl, t1.thg, _, rfl, ite2 (fun w1 => ?_) (fun w1 => ?_)⟩
        · refine hne (P := isWh u = true) (by rw [w1]; decide) (fun e => ?_)
          rw [(inj e).1]
          rfl
        obtain ⟨m, rfl⟩ : ∃ m, u = .int m := by cases u <;> first | exact ⟨_, rfl⟩ | exact absurd rfl w1
        refine ⟨a, rfl, _, ha, _, rfl, isiT t2.thg (by decide) ?_⟩
        rw [bl_of t2]
        refine ite2 (fun w2 => ?_) (fun w2 => ?_)
        · refine hne (P := isBl v = true) (by rw [w2]; decide) (fun e => ?_)
          rw [(inj e).2.1]
          rfl
        obtain ⟨c, rfl⟩ : ∃ c, v = .bl c := by cases v <;> first | exact ⟨_, rfl⟩ | exact absurd rfl w2
        refine ⟨a, rfl, _, ha, _, rfl, ite2 (fun w3 => ?_) (fun w3 => fin m c rfl rfl (.inl (Classical.not_not.mp w3)))⟩
        refine ⟨a, rfl, _, ha, _, rfl, z, T3, rfl, t3.thg, _, rfl, ite2 (fun w4 => ?_) (fun w4 => ?_)⟩
        · refine hne (P := z = .non ∨ isWh z = true) (fun h => h.elim w3 (by rw [w4]; decide)) (fun e => ?_)
          rw [(inj e).2.2]
          rcases ho with rfl | ⟨y, rfl⟩
          · exact .inl rfl
          · exact .inr rfl
        obtain ⟨y, rfl⟩ : ∃ y, z = .int y := by cases z <;> first | exact ⟨_, rfl⟩ | exact absurd rfl w4
        exact fin m c rfl rfl (.inr ⟨y, rfl⟩)
theorem ok_isFetches {f C_Kept : Addr} {fd : FuncData} (F : Fun K "is_fetches" "is_fetches" s_is_fetches f fd) (z_isinstance : mg "isinstance" = none) (z_list : mg "list" = none) (z_len : mg "len" = none) (z_zip : mg "zip" = none) (D_need_lines : Dn P w K mg base CX0 3 "need_lines" ["lines"] (spNeedLines K)) (K_Kept : Cls K C_Kept) (M_Kept : Mn P w K mg base CX0 4 C_Kept "Kept" ["self", "most"] (spKInit C_Kept)) (N_Kept_touch : Nn P w K mg base CX0 3 C_Kept "touch" ["self", "line"] (spTouch C_Kept)) (D_is_fetch : Dn P w K mg base CX0 2 "is_fetch" ["row", "line", "due"] (spIsFetch K)) : FnOk P w K mg base CX0 6 f fd ["lines", "most", "thing"] (spIsFetches K) := by
  refine F.ok sc_is_fetches (fun vs H Q E h => ?_) (fun cdv A outer s H vs Q E hr h => ?_)
  · obtain ⟨a, ns, B, x, td, rfl, _⟩ := h
    rfl
  · obtain ⟨a, ns, B, x, td, rfl, hS, h0, hl, hB, hB2, hX, q1, q2⟩ := h
    refine ⟨_, (pss_cons (ps_expr (pe_cd D_need_lines (hr.mono (by decide)) (by rfl) pass0 (pa_cons (pv 0) pa_nil)))
      (pss_cons (ps_set (i := 3) sc_is_fetches.nd rfl (by first | exact Or.inl rfl | exact Or.inr rfl) (pe_mk M_Kept (hr.mono (by decide)) (by rfl) pass0 (pa_cons (pv 1) pa_nil)))
      (pss_cons (ps_if (PW.pt (pw_or (pt_not (pt_val (pe_callB (call_isiK' (K := K)) (by rfl) z_isinstance (by decide +kernel) (pa_cons (pv 2) (pa_cons (pe_bltn (v := V.ty "list") (u := Value.type "list") (by rfl) z_list (by decide +kernel) rfl) pa_nil))))) (pw_or1 (pt_cmpR op_ne (pe_callB (call_lenR (K := K)) (by rfl) z_len (by decide +kernel) (pa_cons (pv 2) pa_nil)) (pe_callB (call_lenR (K := K)) (by rfl) z_len (by decide +kernel) (pa_cons (pv 0) pa_nil)) (nomark _))))) (pss_one (ps_ret pe_bl)) pss_nil)
      (pss_cons (ps_for PassesOwn.never rfl (pi_zipK (by rfl) z_zip (pa_cons (pv 0) (pa_cons (pv 2) pa_nil)) (K := K)) (pg_tup rfl (pgs_cons (pg_name (i := 4) sc_is_fetches.nd rfl (by first | exact Or.inl rfl | exact Or.inr rfl)) (pgs_cons (pg_name (i := 5) sc_is_fetches.nd rfl (by first | exact Or.inl rfl | exact Or.inr rfl)) pgs_nil))) (pss_one (ps_if (pt_not (pt_val (pe_cd D_is_fetch (hr.mono (by decide)) (by rfl) pass0 (pa_cons (pv 5) (pa_cons (pv 4) (pa_cons (pe_md (pv 3) N_Kept_touch (hr.mono (by decide)) pass0 (pa_cons (pv 4) pa_nil)) pa_nil)))))) (pss_one (ps_ret pe_bl)) pss_nil)))
      (pss_one (ps_ret pe_bl)))))), ?_⟩
    walk_at "rd"
    refine ⟨a, ns, rfl, hS, h0, ?_⟩
    walk_at "rd"
    refine Made.intro fun p dx H1 np s1 h1 => ?_
    refine ⟨p, dx, B, rfl, h1, hB, hB2, fun d2 H2 o2 nd2 k2 => ⟨rfl, ?_⟩⟩
    have s2 : Same H H2 := Same.off s1 np o2
    have nd0 : H d2 = none := s1.free nd2
    have hX2 := hX.same s2
    cases td with
    | other =>
      obtain ⟨T, th, nT⟩ := hX2
      refine isiT th.thg (by decide) (iteP ?_ (q2 H2 s2 (fun h => by cases h)))
      simp [kindIs, nT]
    | lst rs =>
      obtain ⟨l, ys, rfl, hL0, hR0⟩ := hX
      have hL := s2.seq hL0
      have hR := Paired.mapP hR0 fun _ _ r => r.same s2
      have hlr := Paired.length hR
      refine isiT (thg_seq hL) (by decide) (iteN (by decide) ⟨l, rfl, ys, .inl hL, _, .inl (s2.seq hS), ite2 (fun c => ?_) (fun c => ?_)⟩)
      · refine q2 H2 s2 (fun h => c ?_)
        have e := congrArg List.length (TD.lst.inj h)
        rw [List.length_map, dues_len] at e
        rw [List.length_map, hlr, e]
      walk_at "rd"
      have hly : (ns.map V.int).length = ys.length := by
        rw [Classical.not_not] at c
        omega
      rw [List.length_map] at hly
      refine ⟨⟨_, s2.seq hS⟩, ⟨_, hL⟩, Loop.zip (xs := ns.map V.int) (ys := ys) (by rw [List.length_map, hly]) (fun i σ H3 => ∃ (x1 x2 : Option V), σ = [some (.ref a), some (.int (B : Int)), some (.ref l), some (.ref p), x1, x2] ∧ Same H H3 ∧ KeptAt C_Kept H3 p d2 B (lastL B (ns.take i)) ∧ rs.take i = (dues B (ns.take i)).map RD.tup ∧ SqL K H3 l ys ∧ Paired (RowIs K H3) ys rs) ?_ ?_ ?_ ?_⟩
      · refine ⟨none, none, rfl, s2, ?_, rfl, hL, hR⟩
        rw [show lastL B (ns.take 0) = [] by simp [lastL, dd]]
        exact k2
      · rintro i σ H3 _ ⟨x1, x2, rfl, s3, k3, e3, hL3, hR3⟩
        exact ⟨s3.seq hS, hL3⟩
      · rintro i x y σ H3 T H4 hx hy ⟨x1, x2, rfl, s3, k3, e3, hL3, hR3⟩ nT s4 h4
        obtain ⟨n, hn, rfl⟩ := int_at hx
        have hi : i < ns.length := (List.getElem?_eq_some_iff.mp hn).1
        obtain ⟨rd, hrd, hRy⟩ := pAt hR3 hy
        refine ⟨T, _, rfl, seqT_of h4, rfl, ?_⟩
        walk_at "rd"
        obtain ⟨⟨dx4, hp4⟩, hd4⟩ := k3.same s4
        refine ⟨_, _, hp4, nf_touch, p, d2, B, _, n, rfl, ⟨⟨dx4, hp4⟩, hd4⟩, h0 n (List.mem_of_getElem? hn), lastL_len B _, hB2, hB, fun t H5 nt o5 k5 h5 => ?_⟩
        have s34 := s3.trans s4
        have s25 : Same H H5 := Same.off s34 nd0 o5
        have hnx : lastL B (ns.take (i + 1)) = touchL B (lastL B (ns.take i)) n := by
          unfold lastL
          rw [touch_dd hB, take_snoc hn, List.reverse_append]
          rfl
        have hds := dues_snoc hB hn
        have rL : RowIs K H5 y rd := by
          obtain ⟨rd0, hrd0, hy0⟩ := pAt hR0 hy
          rw [hrd] at hrd0
          rw [Option.some.inj hrd0]
          exact hy0.same s25
        refine ⟨y, n, t, _, _, rd, rfl, rL, seqT_of h5, outL_or _ _ _, fun H6 s6 e6 => ⟨_, rfl, iteN (by decide) ?_⟩, fun H6 s6 e6 => ⟨_, rfl, iteP rfl ?_⟩⟩
        · refine ⟨s25.trans s6, ?_, ?_, (s25.trans s6).seq hL0, Paired.mapP hR0 fun _ _ r => r.same (s25.trans s6)⟩
          · rw [hnx]
            exact k5.same s6
          · rw [take_snoc hrd, e3, hds, List.map_append, e6]
            rfl
        · refine q2 H6 (s25.trans s6) (fun e => e6 ?_)
          have e7 := TD.lst.inj e
          rw [e7, List.getElem?_map, dues_at hB hn] at hrd
          exact (Option.some.inj hrd).symm
      · rintro σ H3 ⟨x1, x2, rfl, s3, k3, e3, hL3, hR3⟩
        walk_at "rd"
        refine q1 H3 s3 ?_
        rw [List.length_map, List.take_length, hly, hlr, List.take_length] at e3
        rw [e3]
theorem ok_due {f : Addr} {fd : FuncData} (F : Fun K "_law_due" "_law_due" s_law_due f fd) (z_len : mg "len" = none) : FnOk P w K mg base CX0 1 f fd ["_law_lines_here", "_law_most"] (spDue K) := by
  refine F.ok sc_law_due (fun vs H Q E h => ?_) (fun cdv A outer s H vs Q E hr h => ?_)
  · obtain ⟨a, ns, B, rfl, _⟩ := h
    rfl
  · obtain ⟨a, ns, B, rfl, hS, hl, hB, hB2, q⟩ := h
    refine ⟨_, (pss_cons (ps_set (i := 2) sc_law_due.nd rfl (by first | exact Or.inl rfl | exact Or.inr rfl) (pe_lst pa_nil))
      (pss_cons (ps_set (i := 3) sc_law_due.nd rfl (by first | exact Or.inl rfl | exact Or.inr rfl) (pe_lst pa_nil))
      (pss_cons (ps_for PassesOwn.never rfl (pi_listK (pv 0) (K := K)) (pg_name (i := 4) sc_law_due.nd rfl (by first | exact Or.inl rfl | exact Or.inr rfl)) (pss_cons (ps_set (i := 5) sc_law_due.nd rfl (by first | exact Or.inl rfl | exact Or.inr rfl) (pe_cmpR (op_notIn_seqK (K := K)) (pv 4) (pv 2) (by rfl)))
      (pss_cons (ps_set (i := 6) sc_law_due.nd rfl (by first | exact Or.inl rfl | exact Or.inr rfl) (pe_ifExp (PW.pt (pw_and (pt_val (pv 5)) (pw_and1 (pt_cmpR op_eq (pe_callB (call_lenR (K := K)) (by rfl) z_len (by decide +kernel) (pa_cons (pv 2) pa_nil)) (pv 1) (nomark _))))) (pe_ix (ix_listK (K := K)) (pv 2) (pe_un un_neg pe_int) (fun _ _ => rfl)) pe_non))
      (pss_cons (ps_set (i := 2) sc_law_due.nd rfl (by first | exact Or.inl rfl | exact Or.inr rfl) (pe_op (op_catS (K := K)) (pe_lst (pa_cons (pv 4) pa_nil)) (pe_slice (sl_listK (K := K)) (pe_lc (own := [("_law_other", 7)]) (g := gName 7) rfl sc_law_due.nd (pi_listK (pv 2) (K := K)) (blkOk_by (own := [("_law_other", 7)]) (N := ["_law_lines_here", "_law_most", "_law_had", "_law_found", "_law_line", "_law_fetched", "_law_out", "_law_other"]) (sc := defScope s_law_due) (by decide +kernel)) (fun _ _ _ _ _ => pg_name (i := 7) sc_law_due.nd rfl (Or.inl rfl)) (fun _ _ _ _ _ => (pts_one (pt_cmpR op_ne (pv 7) (pv 4) (nomark _)))) (fun _ _ _ _ _ => (pv 7))) po_none (po_some (pe_op op_sub (pv 1) pe_int)))))
      (pss_one (ps_expr (pe_bmK (K := K) PySem.F.plainAttrs_list PySem.F.slot_list_append PySem.F.type_list_append mt_append (pv 3) (pa_cons (pe_tup (pa_cons (pv 4) (pa_cons (pv 5) (pa_cons (pv 6) pa_nil)))) pa_nil))))))))
      (pss_one (ps_ret (pv 3)))))), ?_⟩
    walk_at "rd"
    refine ⟨by decide, New.intro fun d H1 nd s1 h1 => ⟨by decide, New.intro fun p H2 np s2 h2 => ⟨⟨_, (s1.trans s2).seq hS⟩, ?_⟩⟩⟩
    refine Loop.list (xs := ns.map V.int) (fun i σ H3 => ∃ (x1 x2 x3 x4 : Option V) (g : Addr) (ys : List V), σ = [some (.ref a), some (.int (B : Int)), some (.ref g), some (.ref p), x1, x2, x3, x4] ∧ Same H H3 ∧ H3 g = some (.lst ((lastL B (ns.take i)).map V.int)) ∧ g ≠ p ∧ H3 p = some (.lst ys) ∧ Tups K H3 ys (dues B (ns.take i)))
      ⟨none, none, none, none, d, [], rfl, s1.trans s2, by rw [show lastL B (ns.take 0) = [] by simp [lastL, dd]]; exact s2 _ _ h1, ne_of_none h1 np, h2, Paired.nil⟩ ?_ ?_ ?_
    · rintro i σ H3 _ ⟨x1, x2, x3, x4, g, ys, rfl, s3, _⟩
      exact s3.seq hS
    · rintro i x σ H3 hx ⟨x1, x2, x3, x4, g, ys, rfl, s3, hg, ngp, hp, hT⟩
      obtain ⟨n, hn, rfl⟩ := int_at hx
      walk_at "rd"
      have hi : i < ns.length := (List.getElem?_eq_some_iff.mp hn).1
      have hlx := hT.len
      rw [dues_len, List.length_take] at hlx
      have hds := dues_snoc hB hn
      have hnx : lastL B (ns.take (i + 1)) = touchL B (lastL B (ns.take i)) n := by
        unfold lastL
        rw [touch_dd hB, take_snoc hn, List.reverse_append]
        rfl
      have hLn : (lastL B (ns.take i)).Nodup := List.Nodup.sublist (List.take_sublist _ _) (nd_dd _)
      have hLl := lastL_len B (ns.take i)
      generalize lastL B (ns.take i) = L at hg hds hnx hLn hLl
      refine ⟨_, .inl (seq_of hg), rfl, flat_ints _, ?_⟩
      rw [inV_int]
      by_cases hm : n ∈ L
      · have eo : outL B L n = V.non := by
          unfold outL
          rw [if_pos hm]
        have eb : (!decide (n ∈ L)) = !true := by rw [decide_eq_true hm]
        rw [decide_eq_true hm]
        refine iteN (by decide) ?_
        refine ⟨by decide, New.intro fun u1 H4 n4 s4 h4 => ⟨⟨_, seq_of (s4 _ _ hg)⟩, Cmp.pureF (fun x => !decide (x = V.int n)) id (seq_of (s4 _ _ hg)) (by rw [List.length_map]; omega) (fun _ => rfl) ?_ ?_ ?_⟩⟩
        · rintro x H5 R hx s5 hR
          obtain ⟨z, hz, rfl⟩ := List.mem_map.mp hx
          have r : R (!decide (V.int z = V.int n)) H5 := hR H5 (Same.refl H5)
          walk_at "rd"
          simpa only [V.int.injEq] using r
        · rintro x H5 R hx _ s5 hR
          exact ⟨_, rfl, hR H5 (Same.refl H5)⟩
        · intro u2 H5 n5 s5 h5
          rw [List.map_id, List.filter_map] at h5
          have ef : (L.filter ((fun x => !decide (x = V.int n)) ∘ V.int)) = L.filter fun y => decide (y ≠ n) := List.filter_congr fun y _ => by
            show (!decide (V.int y = V.int n)) = _
            by_cases g : y = n <;> simp [g]
          rw [ef] at h5
          refine ⟨u2, rfl, _, seq_of h5, New.intro fun u3 H6 n6 s6 h6 => ?_⟩
          rw [show (B : Int) - 1 = ((B - 1 : Nat) : Int) by omega, cut_to, ← List.map_take] at h6
          refine ⟨_, seq_of (s6 _ _ (s5 _ _ h4)), _, seq_of h6, sz100 (by rw [List.length_map, List.length_take]; simp only [List.length_singleton]; omega), New.intro fun u4 H7 n7 s7 h7 => ?_⟩
          have h7' : H7 u4 = some (.lst ((touchL B L n).map V.int)) := by
            rw [h7, ← touch_flt hB hLn hLl]
            rfl
          have s37 := s4.trans (s5.trans (s6.trans s7))
          have hp7 := s37 _ _ hp
          refine ⟨tyv_list (seq_of hp7), by decide, New.intro fun u5 H8 n8 s8 h8 => ⟨_, s8 _ _ hp7, sz100l (by omega), Upd.intro fun H9 o9 h9 => ?_⟩⟩
          have n4p : u4 ≠ p := fun e => by
            subst e
            rw [s4.trans (s5.trans s6) _ _ hp] at n7
            cases n7
          refine ⟨Same.off (s3.trans (s37.trans s8)) (s1.free np) o9, ?_, n4p, _, h9, ?_⟩
          · rw [o9 _ _ n4p (s8 _ _ h7'), hnx]
          · rw [hds]
            refine Tups.off (pApp ((hT.same s37).same s8) (.cons ⟨u5, rfl, ?_⟩ .nil)) o9 (s8 _ _ hp7)
            unfold rowL
            rw [eo, eb]
            exact seqT_of h8
      · have eb : (!decide (n ∈ L)) = !false := by rw [decide_eq_false hm]
        rw [decide_eq_false hm]
        refine iteP rfl ⟨_, .inl (seq_of hg), ite2 (fun c => ?_) (fun c => ?_)⟩
        · have eB : L.length = B := by
            rw [List.length_map] at c
            omega
          have hz : L[L.length - 1]? = some L[L.length - 1] := List.getElem?_eq_getElem (by omega)
          have eo : outL B L n = V.int L[L.length - 1] := by
            unfold outL
            rw [if_neg hm, if_pos eB, List.getLast?_eq_getElem?, hz]
          refine ⟨_, seq_of hg, _, last_int hz, ?_⟩
          refine ⟨by decide, New.intro fun u1 H4 n4 s4 h4 => ⟨⟨_, seq_of (s4 _ _ hg)⟩, Cmp.pureF (fun x => !decide (x = V.int n)) id (seq_of (s4 _ _ hg)) (by rw [List.length_map]; omega) (fun _ => rfl) ?_ ?_ ?_⟩⟩
          · rintro x H5 R hx s5 hR
            obtain ⟨z, hz, rfl⟩ := List.mem_map.mp hx
            have r : R (!decide (V.int z = V.int n)) H5 := hR H5 (Same.refl H5)
            walk_at "rd"
            simpa only [V.int.injEq] using r
          · rintro x H5 R hx _ s5 hR
            exact ⟨_, rfl, hR H5 (Same.refl H5)⟩
          · intro u2 H5 n5 s5 h5
            rw [List.map_id, List.filter_map] at h5
            have ef : (L.filter ((fun x => !decide (x = V.int n)) ∘ V.int)) = L.filter fun y => decide (y ≠ n) := List.filter_congr fun y _ => by
              show (!decide (V.int y = V.int n)) = _
              by_cases g : y = n <;> simp [g]
            rw [ef] at h5
            refine ⟨u2, rfl, _, seq_of h5, New.intro fun u3 H6 n6 s6 h6 => ?_⟩
            rw [show (B : Int) - 1 = ((B - 1 : Nat) : Int) by omega, cut_to, ← List.map_take] at h6
            refine ⟨_, seq_of (s6 _ _ (s5 _ _ h4)), _, seq_of h6, sz100 (by rw [List.length_map, List.length_take]; simp only [List.length_singleton]; omega), New.intro fun u4 H7 n7 s7 h7 => ?_⟩
            have h7' : H7 u4 = some (.lst ((touchL B L n).map V.int)) := by
              rw [h7, ← touch_flt hB hLn hLl]
              rfl
            have s37 := s4.trans (s5.trans (s6.trans s7))
            have hp7 := s37 _ _ hp
            refine ⟨tyv_list (seq_of hp7), by decide, New.intro fun u5 H8 n8 s8 h8 => ⟨_, s8 _ _ hp7, sz100l (by omega), Upd.intro fun H9 o9 h9 => ?_⟩⟩
            have n4p : u4 ≠ p := fun e => by
              subst e
              rw [s4.trans (s5.trans s6) _ _ hp] at n7
              cases n7
            refine ⟨Same.off (s3.trans (s37.trans s8)) (s1.free np) o9, ?_, n4p, _, h9, ?_⟩
            · rw [o9 _ _ n4p (s8 _ _ h7'), hnx]
            · rw [hds]
              refine Tups.off (pApp ((hT.same s37).same s8) (.cons ⟨u5, rfl, ?_⟩ .nil)) o9 (s8 _ _ hp7)
              unfold rowL
              rw [eo, eb]
              exact seqT_of h8
        · have eB : ¬ L.length = B := fun h => c (by rw [List.length_map, h])
          have eo : outL B L n = V.non := by
            unfold outL
            rw [if_neg hm, if_neg eB]
          refine ⟨by decide, New.intro fun u1 H4 n4 s4 h4 => ⟨⟨_, seq_of (s4 _ _ hg)⟩, Cmp.pureF (fun x => !decide (x = V.int n)) id (seq_of (s4 _ _ hg)) (by rw [List.length_map]; omega) (fun _ => rfl) ?_ ?_ ?_⟩⟩
          · rintro x H5 R hx s5 hR
            obtain ⟨z, hz, rfl⟩ := List.mem_map.mp hx
            have r : R (!decide (V.int z = V.int n)) H5 := hR H5 (Same.refl H5)
            walk_at "rd"
            simpa only [V.int.injEq] using r
          · rintro x H5 R hx _ s5 hR
            exact ⟨_, rfl, hR H5 (Same.refl H5)⟩
          · intro u2 H5 n5 s5 h5
            rw [List.map_id, List.filter_map] at h5
            have ef : (L.filter ((fun x => !decide (x = V.int n)) ∘ V.int)) = L.filter fun y => decide (y ≠ n) := List.filter_congr fun y _ => by
              show (!decide (V.int y = V.int n)) = _
              by_cases g : y = n <;> simp [g]
            rw [ef] at h5
            refine ⟨u2, rfl, _, seq_of h5, New.intro fun u3 H6 n6 s6 h6 => ?_⟩
            rw [show (B : Int) - 1 = ((B - 1 : Nat) : Int) by omega, cut_to, ← List.map_take] at h6
            refine ⟨_, seq_of (s6 _ _ (s5 _ _ h4)), _, seq_of h6, sz100 (by rw [List.length_map, List.length_take]; simp only [List.length_singleton]; omega), New.intro fun u4 H7 n7 s7 h7 => ?_⟩
            have h7' : H7 u4 = some (.lst ((touchL B L n).map V.int)) := by
              rw [h7, ← touch_flt hB hLn hLl]
              rfl
            have s37 := s4.trans (s5.trans (s6.trans s7))
            have hp7 := s37 _ _ hp
            refine ⟨tyv_list (seq_of hp7), by decide, New.intro fun u5 H8 n8 s8 h8 => ⟨_, s8 _ _ hp7, sz100l (by omega), Upd.intro fun H9 o9 h9 => ?_⟩⟩
            have n4p : u4 ≠ p := fun e => by
              subst e
              rw [s4.trans (s5.trans s6) _ _ hp] at n7
              cases n7
            refine ⟨Same.off (s3.trans (s37.trans s8)) (s1.free np) o9, ?_, n4p, _, h9, ?_⟩
            · rw [o9 _ _ n4p (s8 _ _ h7'), hnx]
            · rw [hds]
              refine Tups.off (pApp ((hT.same s37).same s8) (.cons ⟨u5, rfl, ?_⟩ .nil)) o9 (s8 _ _ hp7)
              unfold rowL
              rw [eo, eb]
              exact seqT_of h8
    · rintro σ H3 ⟨x1, x2, x3, x4, g, ys, rfl, s3, hg, ngp, hp, hT⟩
      walk_at "rd"
      rw [List.length_map, List.take_length] at hT
      exact q p H3 ys (s1.free np) s3 hp hT
theorem ok_row {f : Addr} {fd : FuncData} (F : Fun K "_law_row" "_law_row" s_law_row f fd) (z_int : mg "int" = none) (z_str : mg "str" = none) : FnOk P w K mg base CX0 1 f fd ["_law_way", "_law_row_here"] (spRow K) := by
  refine F.ok sc_law_row (fun vs H Q E h => ?_) (fun cdv A outer s H vs Q E hr h => ?_)
  · obtain ⟨way, r, n, b, o, rfl, _⟩ := h
    rfl
  · obtain ⟨way, r, n, b, o, rfl, w0, w1, hr1, ho, q⟩ := h
    refine ⟨_, (pss_cons (ps_asg (pv 1) (pg_tup rfl (pgs_cons (pg_name (i := 2) sc_law_row.nd rfl (by first | exact Or.inl rfl | exact Or.inr rfl)) (pgs_cons (pg_name (i := 3) sc_law_row.nd rfl (by first | exact Or.inl rfl | exact Or.inr rfl)) (pgs_cons (pg_name (i := 4) sc_law_row.nd rfl (by first | exact Or.inl rfl | exact Or.inr rfl)) pgs_nil)))))
      (pss_cons (ps_if (pt_cmpR op_lt (pv 0) pe_int (nomark _)) (pss_one (ps_ret (pe_ix (ix_listK (K := K)) (pe_lst (pa_cons (pe_tup (pa_cons (pe_op op_add (pv 2) pe_int) (pa_cons (pv 3) (pa_cons (pv 4) pa_nil)))) (pa_cons (pe_tup (pa_cons (pv 2) (pa_cons (pe_not (pv 3)) (pa_cons (pv 4) pa_nil)))) (pa_cons (pe_tup (pa_cons (pv 2) (pa_cons (pe_callTy call_int1R (by rfl) z_int (by decide +kernel) (pa_cons (pv 3) pa_nil)) (pa_cons (pv 4) pa_nil)))) (pa_cons (pe_tup (pa_cons (pv 2) (pa_cons (pv 3) pa_nil))) pa_nil))))) (pv 0) (fun _ _ => rfl)))) pss_nil)
      (pss_cons (ps_if (pt_cmpR op_lt (pv 0) pe_int (nomark _)) (pss_one (ps_ret (pe_ix (ix_listK (K := K)) (pe_lst (pa_cons (pe_lst (pa_cons (pv 2) (pa_cons (pv 3) (pa_cons (pv 4) pa_nil)))) (pa_cons (pe_tup (pa_cons (pv 2) (pa_cons (pv 3) (pa_cons (pv 4) (pa_cons pe_non pa_nil))))) (pa_cons pe_non (pa_cons (pe_tup (pa_cons (pv 2) (pa_cons pe_non (pa_cons (pv 4) pa_nil)))) pa_nil))))) (pe_op op_sub (pv 0) pe_int) (fun _ _ => rfl)))) pss_nil)
      (pss_cons (ps_if (pt_cmpR op_eq (pv 0) pe_int (nomark _)) (pss_one (ps_ret (pe_tup (pa_cons (pe_cmpR op_eq (pv 2) pe_int (nomark _)) (pa_cons (pv 3) (pa_cons (pv 4) pa_nil)))))) pss_nil)
      (pss_cons (ps_if (pt_cmpR op_isN (pv 4) pe_non (nomark _)) (pss_one (ps_ret (pe_tup (pa_cons (pv 2) (pa_cons (pv 3) (pa_cons (pe_ix (ix_listK (K := K)) (pe_lst (pa_cons (pv 2) (pa_cons pe_int (pa_cons pe_bl (pa_cons pe_bl pa_nil))))) (pe_op op_sub (pv 0) pe_int) (fun _ _ => rfl)) pa_nil)))))) pss_nil)
      (pss_one (ps_ret (pe_tup (pa_cons (pv 2) (pa_cons (pv 3) (pa_cons (pe_ix (ix_listK (K := K)) (pe_lst (pa_cons pe_non (pa_cons (pe_op op_add (pv 4) pe_int) (pa_cons (pe_callTy call_strI (by rfl) z_str (by decide +kernel) (pa_cons (pe_op op_modN (pv 4) pe_int) pa_nil)) (pa_cons (pe_cmpR op_eq (pv 4) pe_int (nomark _)) pa_nil))))) (pe_op op_sub (pv 0) pe_int) (fun _ _ => rfl)) pa_nil))))))))))), ?_⟩
    walk_at "rd"
    refine ⟨_, hr1, rfl, _, _, rfl, _, _, rfl, _, _, rfl, rfl, ?_⟩
    have th : ∀ {z : V} {H2 : Hp}, z ∈ [V.int n, V.bl b, o] → ∃ T, Th K H2 z T := fun hz => rowF_th ⟨n, b, o, rfl, ho⟩ _ hz
    have tho : ∀ {H2 : Hp}, ∃ T, Th K H2 o T := th (by simp)
    refine ite2 (fun c1 => ?_) (fun c1 => ite2 (fun c2 => ?_) (fun c2 => ite2 (fun c3 => ?_) (fun c3 => ?_)))
    · refine ⟨n, rfl, by decide, New.intro fun t1 H1 n1 s1 h1 => ⟨b, rfl, by decide, New.intro fun t2 H2 n2 s2 h2 => .inr ⟨b, rfl, by decide, New.intro fun t3 H3 n3 s3 h3 => ⟨by decide, New.intro fun t4 H4 n4 s4 h4 => ⟨by decide, New.intro fun l H5 n5 s5 h5 => ⟨_, seq_of h5, ?_⟩⟩⟩⟩⟩⟩
      have S5 := s1.trans (s2.trans (s3.trans (s4.trans s5)))
      have hw : way = 0 ∨ way = 1 ∨ way = 2 ∨ way = 3 := by omega
      rcases hw with rfl | rfl | rfl | rfl
      · refine ⟨_, rfl, q _ H5 (.tup _) S5 ⟨t1, rfl, seqT_of (s2.trans (s3.trans (s4.trans s5)) _ _ h1), fun z hz => ?_⟩ (fun e => ?_)⟩
        · simp only [List.mem_cons, List.not_mem_nil, or_false] at hz
          rcases hz with rfl | rfl | rfl
          · exact ⟨_, .int _⟩
          · exact ⟨_, .bl _⟩
          · exact tho
        · have := RD.tup.inj e
          simp only [List.cons.injEq, V.int.injEq] at this
          omega
      · refine ⟨_, rfl, q _ H5 (.tup _) S5 ⟨t2, rfl, seqT_of (s3.trans (s4.trans s5) _ _ h2), fun z hz => ?_⟩ (fun e => ?_)⟩
        · simp only [List.mem_cons, List.not_mem_nil, or_false] at hz
          rcases hz with rfl | rfl | rfl
          · exact ⟨_, .int _⟩
          · exact ⟨_, .bl _⟩
          · exact tho
        · have := RD.tup.inj e
          simp only [List.cons.injEq, V.bl.injEq] at this
          cases b <;> simp at this
      · refine ⟨_, rfl, q _ H5 (.tup _) S5 ⟨t3, rfl, seqT_of (s4.trans s5 _ _ h3), fun z hz => ?_⟩ (fun e => ?_)⟩
        · simp only [List.mem_cons, List.not_mem_nil, or_false] at hz
          rcases hz with rfl | rfl | rfl
          · exact ⟨_, .int _⟩
          · exact ⟨_, .int _⟩
          · exact tho
        · have := RD.tup.inj e
          simp at this
      · refine ⟨_, rfl, q _ H5 (.tup _) S5 ⟨t4, rfl, seqT_of (s5 _ _ h4), fun z hz => ?_⟩ (fun e => ?_)⟩
        · simp only [List.mem_cons, List.not_mem_nil, or_false] at hz
          rcases hz with rfl | rfl
          · exact ⟨_, .int _⟩
          · exact ⟨_, .bl _⟩
        · have := RD.tup.inj e
          simp at this
    · refine ⟨by decide, New.intro fun t1 H1 n1 s1 h1 => ⟨by decide, New.intro fun t2 H2 n2 s2 h2 => ⟨by decide, New.intro fun t3 H3 n3 s3 h3 => ⟨by decide, New.intro fun l H5 n5 s5 h5 => ⟨_, seq_of h5, ?_⟩⟩⟩⟩⟩
      have S5 := s1.trans (s2.trans (s3.trans s5))
      have hw : way - 4 = 0 ∨ way - 4 = 1 ∨ way - 4 = 2 ∨ way - 4 = 3 := by omega
      rcases hw with e0 | e0 | e0 | e0
      · rw [e0]
        exact ⟨_, rfl, q _ H5 .other S5 ⟨_, .lst (seq_of (s2.trans (s3.trans s5) _ _ h1)), by decide⟩ (fun e => by cases e)⟩
      · rw [e0]
        refine ⟨_, rfl, q _ H5 (.tup _) S5 ⟨t2, rfl, seqT_of (s3.trans s5 _ _ h2), fun z hz => ?_⟩ (fun e => ?_)⟩
        · simp only [List.mem_cons, List.not_mem_nil, or_false] at hz
          rcases hz with rfl | rfl | rfl | rfl
          · exact ⟨_, .int _⟩
          · exact ⟨_, .bl _⟩
          · exact tho
          · exact ⟨_, .non⟩
        · have := RD.tup.inj e
          simp at this
      · rw [e0]
        exact ⟨_, rfl, q _ H5 .other S5 ⟨_, .non, by decide⟩ (fun e => by cases e)⟩
      · rw [e0]
        refine ⟨_, rfl, q _ H5 (.tup _) S5 ⟨t3, rfl, seqT_of (s5 _ _ h3), fun z hz => ?_⟩ (fun e => ?_)⟩
        · simp only [List.mem_cons, List.not_mem_nil, or_false] at hz
          rcases hz with rfl | rfl | rfl
          · exact ⟨_, .int _⟩
          · exact ⟨_, .non⟩
          · exact tho
        · have := RD.tup.inj e
          simp at this
    · refine ⟨rfl, by decide, New.intro fun t1 H1 n1 s1 h1 => q _ H1 (.tup _) s1 ⟨t1, rfl, seqT_of h1, fun z hz => ?_⟩ (fun e => ?_)⟩
      · simp only [List.mem_cons, List.not_mem_nil, or_false] at hz
        rcases hz with rfl | rfl | rfl
        · exact ⟨_, .bl _⟩
        · exact ⟨_, .bl _⟩
        · exact tho
      · have := RD.tup.inj e
        simp at this
    · have hw : way - 9 = 0 ∨ way - 9 = 1 ∨ way - 9 = 2 ∨ way - 9 = 3 := by omega
      have fin : ∀ (y : V) H2, Same H H2 → (∃ T, Th K H2 y T) → y ≠ o → 3 ≤ sizeLine ∧ New H2 (HO.tup [V.int n, V.bl b, y]) fun p H2 => Q (V.ref p) H2 := fun y H2 s2 ty ny =>
        ⟨by decide, New.intro fun t1 H3 n3 s3 h3 => q _ H3 (.tup _) (s2.trans s3) ⟨t1, rfl, seqT_of h3, fun z hz => by
          simp only [List.mem_cons, List.not_mem_nil, or_false] at hz
          rcases hz with rfl | rfl | rfl
          · exact ⟨_, .int _⟩
          · exact ⟨_, .bl _⟩
          · obtain ⟨T, t⟩ := ty
            exact ⟨T, t.same s3⟩⟩ (fun e => by
          have := RD.tup.inj e
          simp only [List.cons.injEq, and_true, true_and] at this
          exact ny this)⟩
      refine ite2 (fun c4 => ?_) (fun c4 => ?_)
      · subst c4
        refine ⟨by decide, New.intro fun l H1 n1 s1 h1 => ⟨_, seq_of h1, ?_⟩⟩
        rcases hw with e0 | e0 | e0 | e0
        · rw [e0]
          exact ⟨_, rfl, fin _ H1 s1 ⟨_, .int _⟩ (by simp)⟩
        · rw [e0]
          exact ⟨_, rfl, fin _ H1 s1 ⟨_, .int _⟩ (by simp)⟩
        · rw [e0]
          exact ⟨_, rfl, fin _ H1 s1 ⟨_, .bl _⟩ (by simp)⟩
        · rw [e0]
          exact ⟨_, rfl, fin _ H1 s1 ⟨_, .bl _⟩ (by simp)⟩
      · obtain ⟨y, rfl⟩ := ho.resolve_left c4
        have l2 : (y.fmod 100).natAbs.log2 < 1920 := by
          have p1 := Int.fmod_nonneg_of_pos y (show (0 : Int) < 100 by decide)
          have p2 := Int.fmod_lt_of_pos y (show (0 : Int) < 100 by decide)
          have h3 : (y.fmod 100).natAbs < 2 ^ 7 := by omega
          by_cases h0 : (y.fmod 100).natAbs = 0
          · rw [h0]
            decide
          · have := (Nat.log2_lt h0).mpr h3
            omega
        refine ⟨y, rfl, y, rfl, by decide, l2, rfl, by decide, New.intro fun l H1 n1 s1 h1 => ⟨_, seq_of h1, ?_⟩⟩
        rcases hw with e0 | e0 | e0 | e0
        · rw [e0]
          exact ⟨_, rfl, fin _ H1 s1 ⟨_, .non⟩ (by simp)⟩
        · rw [e0]
          exact ⟨_, rfl, fin _ H1 s1 ⟨_, .int _⟩ (by simp <;> omega)⟩
        · rw [e0]
          exact ⟨_, rfl, fin _ H1 s1 ⟨_, .str _⟩ (by simp)⟩
        · rw [e0]
          exact ⟨_, rfl, fin _ H1 s1 ⟨_, .bl _⟩ (by simp)⟩
theorem ok_forged {f : Addr} {fd : FuncData} (F : Fun K "_law_forged" "_law_forged" s_law_forged f fd) (z_len : mg "len" = none) (z_tuple : mg "tuple" = none) (z_max : mg "max" = none) (D_law_row : Dn P w K mg base CX0 1 "_law_row" ["_law_way", "_law_row_here"] (spRow K)) (D_law_due : Dn P w K mg base CX0 1 "_law_due" ["_law_lines_here", "_law_most"] (spDue K)) : FnOk P w K mg base CX0 2 f fd ["_law_way", "_law_at", "_law_due_here", "_law_lines_here", "_law_most"] (spForged K) := by
  refine F.ok sc_law_forged (fun vs H Q E h => ?_) (fun cdv A outer s H vs Q E hr h => ?_)
  · obtain ⟨way, at_, d, a, ys, ns, B, rfl, _⟩ := h
    rfl
  · obtain ⟨way, at_, d, a, ys, ns, B, rfl, w0, w1, hD, hT, hS, hl, hB, hB2, q⟩ := h
    refine ⟨_, (pss_cons (ps_if (PW.pt (pw_and (pt_cmpR op_lt (pv 0) pe_int (nomark _)) (pw_and1 (pt_cmpR (op_neDK hr.units (K := K)) (pv 2) (pe_lst pa_nil) (nomark _))))) (pss_cons (ps_set (i := 1) sc_law_forged.nd rfl (by first | exact Or.inl rfl | exact Or.inr rfl) (pe_op op_modN (pv 1) (pe_callB (call_lenR (K := K)) (by rfl) z_len (by decide +kernel) (pa_cons (pv 2) pa_nil))))
      (pss_one (ps_ret (pe_op (op_catS (K := K)) (pe_op (op_catS (K := K)) (pe_slice (sl_listK (K := K)) (pv 2) po_none (po_some (pv 1))) (pe_lst (pa_cons (pe_cd D_law_row (hr.mono (by decide)) (by rfl) pass0 (pa_cons (pv 0) (pa_cons (pe_ix (ix_listK (K := K)) (pv 2) (pv 1) (fun _ _ => rfl)) pa_nil))) pa_nil))) (pe_slice (sl_listK (K := K)) (pv 2) (po_some (pe_op op_add (pv 1) pe_int)) po_none))))) pss_nil)
      (pss_cons (ps_if (PW.pt (pw_and (pt_cmpR op_lt (pv 0) pe_int (nomark _)) (pw_and1 (pt_cmpR (op_neDK hr.units (K := K)) (pv 2) (pe_lst pa_nil) (nomark _))))) (pss_cons (ps_set (i := 1) sc_law_forged.nd rfl (by first | exact Or.inl rfl | exact Or.inr rfl) (pe_op op_modN (pv 1) (pe_callB (call_lenR (K := K)) (by rfl) z_len (by decide +kernel) (pa_cons (pv 2) pa_nil))))
      (pss_one (ps_ret (pe_ix (ix_listK (K := K)) (pe_lst (pa_cons (pe_op (op_catS (K := K)) (pe_slice (sl_listK (K := K)) (pv 2) po_none (po_some (pv 1))) (pe_slice (sl_listK (K := K)) (pv 2) (po_some (pe_op op_add (pv 1) pe_int)) po_none)) (pa_cons (pe_op (op_catS (K := K)) (pe_op (op_catS (K := K)) (pe_slice (sl_listK (K := K)) (pv 2) po_none (po_some (pv 1))) (pe_slice (sl_listK (K := K)) (pv 2) (po_some (pv 1)) (po_some (pe_op op_add (pv 1) pe_int)))) (pe_slice (sl_listK (K := K)) (pv 2) (po_some (pv 1)) po_none)) (pa_cons (pe_op (op_catS (K := K)) (pv 2) (pe_slice (sl_listK (K := K)) (pv 2) (po_some (pe_un un_neg pe_int)) po_none)) pa_nil)))) (pe_op op_sub (pv 0) pe_int) (fun _ _ => rfl))))) pss_nil)
      (pss_cons (ps_if (pt_cmpR op_eq (pv 0) pe_int (nomark _)) (pss_one (ps_ret (pe_callTy (call_tupR (K := K)) (by rfl) z_tuple (by decide +kernel) (pa_cons (pv 2) pa_nil)))) pss_nil)
      (pss_cons (ps_if (pt_cmpR op_eq (pv 0) pe_int (nomark _)) (pss_one (ps_ret (pe_ix (ix_listK (K := K)) (pe_lst (pa_cons pe_non (pa_cons pe_str (pa_cons pe_int (pa_cons pe_dnewK pa_nil))))) (pe_op op_modN (pv 1) pe_int) (fun _ _ => rfl)))) pss_nil)
      (pss_cons (ps_set (i := 5) sc_law_forged.nd rfl (by first | exact Or.inl rfl | exact Or.inr rfl) (pe_cd D_law_due (hr.mono (by decide)) (by rfl) pass0 (pa_cons (pv 3) (pa_cons (pe_ix (ix_listK (K := K)) (pe_lst (pa_cons (pe_op op_add (pv 4) pe_int) (pa_cons (pe_callB (call_max2R rfl) (by rfl) z_max (by decide +kernel) (pa_cons pe_int (pa_cons (pe_op op_sub (pv 4) pe_int) pa_nil))) pa_nil))) (pe_op op_modN (pv 0) pe_int) (fun _ _ => rfl)) pa_nil))))
      (pss_one (ps_ret (pe_ifExp (pt_cmpR (op_neDK hr.units (K := K)) (pv 5) (pv 2) (nomark _)) (pv 5) (pe_op (op_catS (K := K)) (pv 2) (pe_lst (pa_cons (pe_tup (pa_cons pe_int (pa_cons pe_bl (pa_cons pe_non pa_nil)))) pa_nil))))))))))), ?_⟩
    walk_at "rd"
    have hF := dues_form B ns
    have hly := hT.len
    have hdl := dues_len B ns
    have lenNe : ∀ {rs : List RD}, rs.length ≠ (dues B ns).length → TD.lst rs ≠ TD.lst ((dues B ns).map RD.tup) := fun hl e => hl (by
      have e2 := congrArg List.length (TD.lst.inj e)
      rw [List.length_map] at e2
      exact e2)
    have mapNe : ∀ {es : List (List V)}, es ≠ dues B ns → TD.lst (es.map RD.tup) ≠ TD.lst ((dues B ns).map RD.tup) := fun hne e => hne ((List.map_inj_right fun _ _ h => RD.tup.inj h).mp (TD.lst.inj e))
    have tail : ∀ H', Same H H' → if way = 16 then ∃ x, (SqL K H' d x ∧ New H' (HO.tup x) fun p H2 => Q (V.ref p) H2) ∨ SqT K H' d x ∧ Q (V.ref d) H'
      else if way = 17 then New H' (HO.dK []) fun p H2 => 4 ≤ sizeLine ∧ New H2 (HO.lst [V.non, V.str (Str.ofString ""), V.int 0, V.ref p]) fun p H2 => (4 : Int) ≠ 0 ∧ ∃ x, SqL K H2 p x ∧ ∃ x_1, atI x (at_.fmod 4) = some x_1 ∧ Q x_1 H2
      else 2 ≤ sizeLine ∧ New H' (HO.lst [V.int ((B : Int) + 1), V.int (if (B : Int) - 1 > 1 then (B : Int) - 1 else 1)]) fun p H2 => (2 : Int) ≠ 0 ∧ ∃ x, SqL K H2 p x ∧ ∃ x_1, atI x (way.fmod 2) = some x_1 ∧
        spDue K [V.ref a, x_1] H2 (fun x H1 => rNeD K x (V.ref d) H1 fun x_2 H' => ∃ k, x_2 = V.bl k ∧ if k = true then Q x H' else 3 ≤ sizeLine ∧ New H' (HO.tup [V.int 0, V.bl true, V.non]) fun p H2 => 1 ≤ sizeLine ∧ New H2 (HO.lst [V.ref p]) fun p H2 =>
          ∃ x, SqL K H2 d x ∧ ∃ x_3, SqL K H2 p x_3 ∧ x.length + x_3.length ≤ sizeLine ∧ New H2 (HO.lst (x ++ x_3)) fun p H2 => Q (V.ref p) H2) E0 := fun H' s' => by
      refine ite2 (fun c1 => ?_) (fun c1 => ite2 (fun c2 => ?_) (fun c2 => ?_))
      · exact ⟨ys, .inl ⟨s'.seq hD, New.intro fun t H1 n1 s1 h1 => q _ H1 .other (s'.trans s1) ⟨_, .tup (seqT_of h1), by decide⟩ (fun e => by cases e)⟩⟩
      · refine New.intro fun t H1 n1 s1 h1 => ⟨by decide, New.intro fun l H2 n2 s2 h2 => ⟨by decide, _, seq_of h2, ?_⟩⟩
        have p1 := Int.fmod_nonneg_of_pos at_ (show (0 : Int) < 4 by decide)
        have p2 := Int.fmod_lt_of_pos at_ (show (0 : Int) < 4 by decide)
        have s12 := s'.trans (s1.trans s2)
        have hw : at_.fmod 4 = 0 ∨ at_.fmod 4 = 1 ∨ at_.fmod 4 = 2 ∨ at_.fmod 4 = 3 := by omega
        rcases hw with e0 | e0 | e0 | e0
        · rw [e0]
          exact ⟨_, rfl, q _ H2 .other s12 ⟨_, .non, by decide⟩ (fun e => by cases e)⟩
        · rw [e0]
          exact ⟨_, rfl, q _ H2 .other s12 ⟨_, .str _, by decide⟩ (fun e => by cases e)⟩
        · rw [e0]
          exact ⟨_, rfl, q _ H2 .other s12 ⟨_, .int _, by decide⟩ (fun e => by cases e)⟩
        · rw [e0]
          exact ⟨_, rfl, q _ H2 .other s12 ⟨_, .dK (s2 _ _ h1), by decide⟩ (fun e => by cases e)⟩
      · refine ⟨by decide, New.intro fun l H1 n1 s1 h1 => ⟨by decide, _, seq_of h1, ?_⟩⟩
        obtain ⟨B', hB', hB1, hB2'⟩ : ∃ B' : Nat, atI [V.int ((B : Int) + 1), V.int (if (B : Int) - 1 > 1 then (B : Int) - 1 else 1)] (way.fmod 2) = some (.int (B' : Int)) ∧ 1 ≤ B' ∧ B' ≤ 40 := by
          have p1 := Int.fmod_nonneg_of_pos way (show (0 : Int) < 2 by decide)
          have p2 := Int.fmod_lt_of_pos way (show (0 : Int) < 2 by decide)
          have hw : way.fmod 2 = 0 ∨ way.fmod 2 = 1 := by omega
          rcases hw with e0 | e0
          · rw [e0]
            exact ⟨B + 1, rfl, by omega, by omega⟩
          · rw [e0]
            by_cases g : (B : Int) - 1 > 1
            · rw [if_pos g]
              refine ⟨B - 1, ?_, by omega, by omega⟩
              rw [show (((B - 1 : Nat)) : Int) = (B : Int) - 1 by omega]
              rfl
            · rw [if_neg g]
              exact ⟨1, rfl, by decide, by decide⟩
        refine ⟨_, hB', a, ns, B', rfl, (s'.trans s1).seq hS, hl, hB1, hB2', fun p2 H2 zs n2 s2 h2 T2 => ?_⟩
        have s12 := s'.trans (s1.trans s2)
        refine ne_rows (seq_of h2) (s12.seq hD) T2 (hT.same s12) (dues_form B' ns) hF ⟨_, rfl, ?_⟩
        by_cases g : dues B' ns = dues B ns
        · rw [decide_eq_true g]
          refine iteN (by decide) ⟨by decide, New.intro fun t H3 n3 s3 h3 => ⟨by decide, New.intro fun u H4 n4 s4 h4 => ⟨ys, (s12.trans (s3.trans s4)).seq hD, _, seq_of h4, sz100 (by rw [List.length_singleton]; omega), New.intro fun v H5 n5 s5 h5 => ?_⟩⟩⟩
          have s15 := s12.trans (s3.trans (s4.trans s5))
          refine q _ H5 (.lst (((dues B ns).map RD.tup) ++ [.tup [.int 0, .bl true, .non]])) s15 ⟨v, _, rfl, seq_of h5, pApp (rows_are (hT.same s15) hF) (.cons (show RowIs K H5 (V.ref t) (.tup [.int 0, .bl true, .non]) from ⟨t, rfl, seqT_of (s5 _ _ (s4 _ _ h3)), rowF_th ⟨_, _, _, rfl, .inl rfl⟩⟩) .nil)⟩ (lenNe ?_)
          simp only [List.length_append, List.length_map, List.length_singleton]
          omega
        · rw [decide_eq_false g]
          exact iteP rfl (q _ H2 (.lst ((dues B' ns).map RD.tup)) s12 ⟨p2, _, rfl, seq_of h2, rows_are T2 (dues_form B' ns)⟩ (mapNe g))
    have ne0 : ∀ {H' : Hp} {p : Addr} {Q' : VK}, Same H H' → H' p = some (.lst []) → Q' (.bl (!decide (dues B ns = []))) H' → rNeD K (V.ref d) (V.ref p) H' Q' := fun s h q => ne_rows (s.seq hD) (seq_of h) (hT.same s) .nil hF (fun d h => (nomatch h)) q
    by_cases he : dues B ns = []
    · have tail2 : ∀ H', Same H H' → _ := fun H' s' => tail H' s'
      refine ite2 (fun c1 => ⟨by decide, New.intro fun p1 H1 n1 s1 h1 => ne0 s1 h1 ⟨_, rfl, iteN (by rw [decide_eq_true he]; decide) (ite2 (fun c2 => ⟨by decide, New.intro fun p2 H2 n2 s2 h2 => ne0 (s1.trans s2) h2 ⟨_, rfl, iteN (by rw [decide_eq_true he]; decide) (tail H2 (s1.trans s2))⟩⟩) (fun c2 => tail H1 s1))⟩⟩) (fun c1 => ite2 (fun c2 => ⟨by decide, New.intro fun p2 H2 n2 s2 h2 => ne0 s2 h2 ⟨_, rfl, iteN (by rw [decide_eq_true he]; decide) (tail H2 s2)⟩⟩) (fun c2 => tail H (Same.refl H)))
    · have hpos : 0 < ys.length := by
        rw [hly]
        exact List.length_pos_iff.mpr he
      obtain ⟨j, hj, ej⟩ : ∃ j : Nat, j < ys.length ∧ at_.fmod (ys.length : Int) = (j : Int) := by
        have p1 := Int.fmod_nonneg_of_pos at_ (show (0 : Int) < (ys.length : Int) by omega)
        have p2 := Int.fmod_lt_of_pos at_ (show (0 : Int) < (ys.length : Int) by omega)
        exact ⟨(at_.fmod (ys.length : Int)).toNat, by omega, by omega⟩
      refine ite2 (fun c1 => ⟨by decide, New.intro fun p1 H1 n1 s1 h1 => ne0 s1 h1 ⟨_, rfl, iteP (by rw [decide_eq_false he]; decide) ?_⟩⟩) (fun c1 => ite2 (fun c2 => ⟨by decide, New.intro fun p2 H2 n2 s2 h2 => ne0 s2 h2 ⟨_, rfl, iteP (by rw [decide_eq_false he]; decide) ?_⟩⟩) (fun c2 => tail H (Same.refl H)))
      · refine ⟨ys, .inl (s1.seq hD), by omega, ys, s1.seq hD, New.intro fun u1 H2 n2 s2 h2 => ?_⟩
        rw [ej] at h2 ⊢
        rw [cut_to] at h2
        have hx : ys[j]? = some ys[j] := List.getElem?_eq_getElem hj
        obtain ⟨u, e, hde, hu, hue⟩ := (hT.same (s1.trans s2)).get hx
        obtain ⟨n, b, o, rfl, ho⟩ := hF e (List.mem_of_getElem? hde)
        rw [hu] at hx
        refine ⟨ys, (s1.trans s2).seq hD, _, atI_nat hx, way, u, n, b, o, rfl, w0, c1, hue, ho, fun x4 H3 rd s3 hr hne => ⟨by decide, New.intro fun u2 H4 n4 s4 h4 => ⟨_, seq_of (s4 _ _ (s3 _ _ h2)), _, seq_of h4, sz100 (by rw [List.length_take, List.length_singleton]; omega), New.intro fun u3 H5 n5 s5 h5 => ?_⟩⟩⟩
        have s15 := (s1.trans s2).trans (s3.trans (s4.trans s5))
        refine ⟨ys, s15.seq hD, New.intro fun u4 H6 n6 s6 h6 => ⟨_, seq_of (s6 _ _ h5), _, seq_of h6, ?_, New.intro fun u5 H7 n7 s7 h7 => ?_⟩⟩
        · rw [show (j : Int) + 1 = ((j + 1 : Nat) : Int) by omega, cut_from]
          refine sz100 ?_
          rw [List.length_append, List.length_take, List.length_singleton, List.length_drop]
          omega
        · rw [show (j : Int) + 1 = ((j + 1 : Nat) : Int) by omega, cut_from] at h7
          have s17 := s15.trans (s6.trans s7)
          have RW' := rows_are (hT.same s17) hF
          refine q _ H7 (.lst (((dues B ns).map RD.tup).take j ++ [rd] ++ ((dues B ns).map RD.tup).drop (j + 1))) s17 ⟨u5, _, rfl, seq_of h7, pApp (pApp (pTake j RW') (.cons (hr.same (s4.trans (s5.trans (s6.trans s7)))) .nil)) (pDrop (j + 1) RW')⟩ (fun e => hne ?_)
          have e2 := congrArg (fun l : List RD => l[j]?) (TD.lst.inj e)
          have lt : (((dues B ns).map RD.tup).take j).length = j := by
            rw [List.length_take, List.length_map]
            omega
          simp only [List.getElem?_map, hde, Option.map_some] at e2
          rw [List.append_assoc, List.getElem?_append_right (by omega), lt, Nat.sub_self] at e2
          exact Option.some.inj e2
      · refine ⟨ys, .inl (s2.seq hD), by omega, ys, s2.seq hD, New.intro fun u1 H3 n3 s3 h3 => ⟨ys, (s2.trans s3).seq hD, New.intro fun u2 H4 n4 s4 h4 => ?_⟩⟩
        rw [ej] at h3 h4 ⊢
        rw [cut_to] at h3
        rw [show (j : Int) + 1 = ((j + 1 : Nat) : Int) by omega, cut_from] at h4
        have s14 := s2.trans (s3.trans s4)
        refine ⟨_, seq_of (s4 _ _ h3), _, seq_of h4, sz100 (by rw [List.length_take, List.length_drop]; omega), New.intro fun u3 H5 n5 s5 h5 => ?_⟩
        have s15 := s14.trans s5
        refine ⟨ys, s15.seq hD, New.intro fun u4 H6 n6 s6 h6 => ⟨ys, (s15.trans s6).seq hD, New.intro fun u5 H7 n7 s7 h7 => ?_⟩⟩
        rw [cut_to] at h6
        rw [show (j : Int) + 1 = ((j + 1 : Nat) : Int) by omega, cut_mid] at h7
        have s17 := s15.trans (s6.trans s7)
        refine ⟨_, seq_of (s7 _ _ h6), _, seq_of h7, sz100 (by simp only [List.length_take, List.length_drop]; omega), New.intro fun u6 H8 n8 s8 h8 => ⟨ys, (s17.trans s8).seq hD, New.intro fun u7 H9 n9 s9 h9 => ?_⟩⟩
        rw [cut_from] at h9
        have s19 := s17.trans (s8.trans s9)
        refine ⟨_, seq_of (s9 _ _ h8), _, seq_of h9, sz100 (by simp only [List.length_append, List.length_take, List.length_drop]; omega), New.intro fun u8 HA nA sA hA => ⟨ys, (s19.trans sA).seq hD, New.intro fun u9 HB nB sB hB' => ?_⟩⟩
        rw [cut_last] at hB'
        have s1B := s19.trans (sA.trans sB)
        refine ⟨ys, s1B.seq hD, _, seq_of hB', sz100 (by rw [List.length_drop]; omega), New.intro fun v1 HC nC sC hC => ⟨by decide, New.intro fun v2 HD nD sD hD' => ⟨_, seq_of hD', ?_⟩⟩⟩
        have s1D := s1B.trans (sC.trans sD)
        have RW' := rows_are (hT.same s1D) hF
        have hw : way - 13 = 0 ∨ way - 13 = 1 ∨ way - 13 = 2 := by omega
        rcases hw with e0 | e0 | e0
        · rw [e0]
          refine ⟨_, rfl, q _ HD (.lst (((dues B ns).map RD.tup).take j ++ ((dues B ns).map RD.tup).drop (j + 1))) s1D ⟨u3, _, rfl, seq_of ((s6.trans (s7.trans (s8.trans (s9.trans (sA.trans (sB.trans (sC.trans sD))))))) _ _ h5), pApp (pTake j RW') (pDrop (j + 1) RW')⟩ (lenNe ?_)⟩
          simp only [List.length_append, List.length_take, List.length_drop, List.length_map]
          omega
        · rw [e0]
          refine ⟨_, rfl, q _ HD (.lst (((dues B ns).map RD.tup).take j ++ (((dues B ns).map RD.tup).drop j).take (j + 1 - j) ++ ((dues B ns).map RD.tup).drop j)) s1D ⟨u8, _, rfl, seq_of ((sB.trans (sC.trans sD)) _ _ hA), pApp (pApp (pTake j RW') (pTake _ (pDrop j RW'))) (pDrop j RW')⟩ (lenNe ?_)⟩
          simp only [List.length_append, List.length_take, List.length_drop, List.length_map]
          omega
        · rw [e0]
          refine ⟨_, rfl, q _ HD (.lst (((dues B ns).map RD.tup) ++ ((dues B ns).map RD.tup).drop (ys.length - 1))) s1D ⟨v1, _, rfl, seq_of (sD _ _ hC), pApp RW' (pDrop (ys.length - 1) RW')⟩ (lenNe ?_)⟩
          simp only [List.length_append, List.length_drop, List.length_map]
          omega
theorem ok_law {f : Addr} {fd : FuncData} (F : Fun K "law" "law" s_law f fd) (z_list : mg "list" = none) (z_range : mg "range" = none)
    (D_law_drawn : Dn P w K mg base CX0 1 "_law_drawn" ["_law_cell", "_law_sizes"] (spDrawn K)) (D_law_lines : Dn P w K mg base CX0 2 "_law_lines" ["_law_script"] (spLines K)) (D_law_due : Dn P w K mg base CX0 1 "_law_due" ["_law_lines_here", "_law_most"] (spDue K)) (D_law_forged : Dn P w K mg base CX0 2 "_law_forged" ["_law_way", "_law_at", "_law_due_here", "_law_lines_here", "_law_most"] (spForged K)) (D_is_fetches : Dn P w K mg base CX0 6 "is_fetches" ["lines", "most", "thing"] (spIsFetches K)) : FnOk P w K mg base CX0 7 f fd ["_law_script"] (spLaw K) := by
  refine F.ok sc_law (fun vs H Q E h => ?_) (fun cdv A outer s H vs Q E hr h => ?_)
  · obtain ⟨a, ns, rfl, _⟩ := h
    rfl
  · obtain ⟨a, ns, rfl, hS, hl, q⟩ := h
    refine ⟨_, (pss_cons (ps_set (i := 1) sc_law.nd rfl (by first | exact Or.inl rfl | exact Or.inr rfl) (pe_cd D_law_lines (hr.mono (by decide)) (by rfl) pass0 (pa_cons (pv 0) pa_nil)))
      (pss_cons (ps_set (i := 2) sc_law.nd rfl (by first | exact Or.inl rfl | exact Or.inr rfl) (pe_cd D_law_drawn (hr.mono (by decide)) (by rfl) pass0 (pa_cons (pe_op op_add (pe_ix (ix_listK (K := K)) (pe_op (op_catS (K := K)) (pv 0) (pe_lst (pa_cons pe_int pa_nil))) pe_int (fun _ _ => rfl)) pe_int) (pa_cons (pe_lst (pa_cons pe_int (pa_cons pe_int (pa_cons pe_int (pa_cons pe_int (pa_cons pe_int pa_nil)))))) pa_nil))))
      (pss_cons (ps_set (i := 3) sc_law.nd rfl (by first | exact Or.inl rfl | exact Or.inr rfl) (pe_op op_add pe_int (pe_ix (ix_listK (K := K)) (pv 2) (pe_op op_add pe_int (pe_ix (ix_listK (K := K)) (pv 2) pe_int (fun _ _ => rfl))) (fun _ _ => rfl))))
      (pss_cons (ps_set (i := 4) sc_law.nd rfl (by first | exact Or.inl rfl | exact Or.inr rfl) (pe_cd D_law_due (hr.mono (by decide)) (by rfl) pass0 (pa_cons (pv 1) (pa_cons (pv 3) pa_nil))))
      (pss_cons (ps_set (i := 5) sc_law.nd rfl (by first | exact Or.inl rfl | exact Or.inr rfl) (pe_callTy (call_listR (K := K)) (by rfl) z_list (by decide +kernel) (pa_cons (pv 1) pa_nil)))
      (pss_cons (ps_set (i := 6) sc_law.nd rfl (by first | exact Or.inl rfl | exact Or.inr rfl) (pe_callTy (call_listR (K := K)) (by rfl) z_list (by decide +kernel) (pa_cons (pv 4) pa_nil)))
      (pss_cons (ps_if (pt_cmpR op_notBl (pe_cd D_is_fetches (hr.mono (by decide)) (by rfl) pass0 (pa_cons (pv 5) (pa_cons (pv 3) (pa_cons (pv 6) pa_nil)))) pe_bl (nomark _)) (pss_one (ps_ret pe_bl)) pss_nil)
      (pss_cons (ps_for PassesOwn.never rfl (pi_rangeL1 (by rfl) z_range (pa_cons pe_int pa_nil)) (pg_name (i := 7) sc_law.nd rfl (by first | exact Or.inl rfl | exact Or.inr rfl)) (pss_cons (ps_set (i := 8) sc_law.nd rfl (by first | exact Or.inl rfl | exact Or.inr rfl) (pe_cd D_law_forged (hr.mono (by decide)) (by rfl) pass0 (pa_cons (pe_op op_modN (pe_op op_add (pe_ix (ix_listK (K := K)) (pv 2) pe_int (fun _ _ => rfl)) (pe_op op_mul pe_int (pv 7))) pe_int) (pa_cons (pe_op op_add (pe_ix (ix_listK (K := K)) (pv 2) pe_int (fun _ _ => rfl)) (pe_op op_mul pe_int (pv 7))) (pa_cons (pe_callTy (call_listR (K := K)) (by rfl) z_list (by decide +kernel) (pa_cons (pv 4) pa_nil)) (pa_cons (pv 1) (pa_cons (pv 3) pa_nil)))))))
      (pss_cons (ps_if (pt_cmpR op_notBl (pe_cd D_is_fetches (hr.mono (by decide)) (by rfl) pass0 (pa_cons (pv 5) (pa_cons (pv 3) (pa_cons (pv 8) pa_nil)))) pe_bl (nomark _)) (pss_one (ps_ret pe_bl)) pss_nil)
      (pss_cons (ps_set (i := 8) sc_law.nd rfl (by first | exact Or.inl rfl | exact Or.inr rfl) (pe_cd D_law_forged (hr.mono (by decide)) (by rfl) pass0 (pa_cons (pe_op op_modN (pe_op op_add (pe_op op_add (pe_ix (ix_listK (K := K)) (pv 2) pe_int (fun _ _ => rfl)) (pe_op op_mul pe_int (pv 7))) pe_int) pe_int) (pa_cons (pe_op op_sub pe_int pe_int) (pa_cons (pe_callTy (call_listR (K := K)) (by rfl) z_list (by decide +kernel) (pa_cons (pv 4) pa_nil)) (pa_cons (pv 1) (pa_cons (pv 3) pa_nil)))))))
      (pss_one (ps_if (pt_cmpR op_notBl (pe_cd D_is_fetches (hr.mono (by decide)) (by rfl) pass0 (pa_cons (pv 5) (pa_cons (pv 3) (pa_cons (pv 8) pa_nil)))) pe_bl (nomark _)) (pss_one (ps_ret pe_bl)) pss_nil))))))
      (pss_cons (ps_if (PW.pt (pw_or (pt_cmpR (op_neDK hr.units (K := K)) (pv 5) (pv 1) (nomark _)) (pw_or1 (pt_cmpR (op_neDK hr.units (K := K)) (pv 6) (pv 4) (nomark _))))) (pss_one (ps_ret pe_bl)) pss_nil)
      (pss_one (ps_ret (pe_and (pe_cmpR op_isBl (pe_cd D_is_fetches (hr.mono (by decide)) (by rfl) pass0 (pa_cons (pv 5) (pa_cons (pv 3) (pa_cons (pv 6) pa_nil)))) pe_bl (nomark _)) (pe_one (pe_cmpR op_isBl (pe_cd D_is_fetches (hr.mono (by decide)) (by rfl) pass0 (pa_cons (pe_lst pa_nil) (pa_cons (pv 3) (pa_cons (pe_lst pa_nil) pa_nil)))) pe_bl (nomark _))))))))))))))), ?_⟩
    walk_at "rd"
    refine ⟨a, ns, rfl, hS, hl, fun p H1 xs np s1 h1 x0 xl => ?_⟩
    walk_at "rd"
    obtain ⟨z, hz⟩ := head_int ns 5
    refine ⟨by decide, New.intro fun p2 H2 n2 s2 h2 => ⟨_, (s1.trans s2).seq hS, _, seq_of h2, sz100 (by rw [List.length_map, List.length_singleton]; omega), New.intro fun p3 H3 n3 s3 h3 => ⟨_, seq_of h3, _, hz, _, rfl, by decide, New.intro fun p4 H4 n4 s4 h4 => ?_⟩⟩⟩
    refine ⟨z + 3, p4, [2, 4, 32, 20, 80], rfl, seq_of h4, by decide, by decide, fun p5 H5 ws n5 s5 h5 dr => ?_⟩
    obtain ⟨w0, w1, w2, w3, w4, rfl, l0, l1, l2, l3, l4⟩ : ∃ w0 w1 w2 w3 w4 : Int, ws = [w0, w1, w2, w3, w4] ∧ (0 ≤ w0 ∧ w0 < 2) ∧ (0 ≤ w1 ∧ w1 < 4) ∧ (0 ≤ w2 ∧ w2 < 32) ∧ (0 ≤ w3 ∧ w3 < 20) ∧ (0 ≤ w4 ∧ w4 < 80) := by
      cases dr with | cons a0 dr => cases dr with | cons a1 dr => cases dr with | cons a2 dr => cases dr with | cons a3 dr => cases dr with | cons a4 dr =>
      cases dr
      exact ⟨_, _, _, _, _, rfl, a0, a1, a2, a3, a4⟩
    have T5 : SqL K H5 p5 [.int w0, .int w1, .int w2, .int w3, .int w4] := seq_of h5
    obtain ⟨B, hat, hB, hB2⟩ : ∃ B : Nat, atI [V.int w0, .int w1, .int w2, .int w3, .int w4] (1 + w0) = some (.int ((B : Int) - 1)) ∧ 1 ≤ B ∧ B ≤ 32 := by
      have hw : w0 = 0 ∨ w0 = 1 := by omega
      rcases hw with e | e
      · subst e
        refine ⟨(w1 + 1).toNat, ?_, by omega, by omega⟩
        rw [show (((w1 + 1).toNat : Nat) : Int) - 1 = w1 by omega]
        rfl
      · subst e
        refine ⟨(w2 + 1).toNat, ?_, by omega, by omega⟩
        rw [show (((w2 + 1).toNat : Nat) : Int) - 1 = w2 by omega]
        rfl
    have S15 : Same H1 H5 := s2.trans (s3.trans (s4.trans s5))
    have P5 := S15 _ _ h1
    refine ⟨p5, rfl, _, T5, _, rfl, _, rfl, p5, rfl, _, T5, _, hat, _, rfl, ?_⟩
    rw [show 1 + ((B : Int) - 1) = (B : Int) by omega]
    refine ⟨p, xs, B, rfl, seq_of P5, by omega, hB, by omega, fun d H6 ys nd s6 h6 T6 => ?_⟩
    have hF := dues_form B xs
    have hly := T6.len
    have hdl := dues_len B xs
    have P6 := s6 _ _ P5
    refine ⟨_, .inl (seq_of P6), New.intro fun g H7 n7 s7 h7 => ⟨d, rfl, _, .inl (seq_of (s7 _ _ h6)), New.intro fun gd H8 n8 s8 h8 => ?_⟩⟩
    have s78 := s7.trans s8
    have T8 := T6.same s78
    have G8 := s8 _ _ h7
    refine ⟨g, xs, B, .ref gd, .lst ((dues B xs).map RD.tup), rfl, seq_of G8, x0, by omega, hB, hB2, ⟨gd, ys, rfl, seq_of h8, rows_are T8 hF⟩, fun H9 s9 _ => ⟨_, rfl, iteN (fun h => h rfl) ?_⟩, fun H9 s9 h => absurd rfl h⟩
    have s18 := (s1.trans S15).trans (s6.trans s78)
    have P8 := s78 _ _ P6
    have D8 := s78 _ _ h6
    have W8 := (s6.trans s78).seq T5
    refine Loop.range (fun i σ H1 => ∃ (x1 x2 : Option V), σ = [some (.ref a), some (.ref p), some (.ref p5), some (.int (B : Int)), some (.ref d), some (.ref g), some (.ref gd), x1, x2] ∧ Same H8 H1) ⟨none, none, rfl, s9⟩ ?_ ?_
    · rintro i σ HA hi ⟨x1, x2, rfl, sA⟩
      walk_at "rd"
      have m20 : ∀ y : Int, 0 ≤ y.fmod 20 ∧ y.fmod 20 < 20 := fun y => ⟨Int.fmod_nonneg_of_pos y (by decide), Int.fmod_lt_of_pos y (by decide)⟩
      refine ⟨_, sA.seq W8, _, rfl, .inl ⟨by decide, by decide⟩, _, rfl, by decide, _, sA.seq W8, _, rfl, .inl ⟨by decide, by decide⟩, _, rfl, _, .inl (sA.seq (seq_of D8)), New.intro fun u1 HB n1 sB hB' => ?_⟩
      have sAB := sA.trans sB
      refine ⟨_, _, u1, p, ys, xs, B, rfl, (m20 _).1, (m20 _).2, seq_of hB', T8.same sAB, sAB.seq (seq_of P8), by omega, hB, hB2, fun x HC td sC hx htd => ?_⟩
      have sAC := sAB.trans sC
      refine ⟨g, xs, B, x, td, rfl, sAC.seq (seq_of G8), x0, by omega, hB, hB2, hx, fun _ _ e => absurd e htd, fun HD sD _ => ⟨_, rfl, iteN (fun h => h rfl) ?_⟩⟩
      have sAD := sAC.trans sD
      refine ⟨_, sAD.seq W8, _, rfl, .inl ⟨by decide, by decide⟩, _, rfl, by decide, _, .inl (sAD.seq (seq_of D8)), New.intro fun u2 HE n2 sE hE => ?_⟩
      have sAE := sAD.trans sE
      refine ⟨_, _, u2, p, ys, xs, B, rfl, (m20 _).1, (m20 _).2, seq_of hE, T8.same sAE, sAE.seq (seq_of P8), by omega, hB, hB2, fun x HF td sF hx htd => ?_⟩
      have sAF := sAE.trans sF
      exact ⟨g, xs, B, x, td, rfl, sAF.seq (seq_of G8), x0, by omega, hB, hB2, hx, fun _ _ e => absurd e htd, fun HG sG _ => ⟨_, rfl, iteN (fun h => h rfl) (sAF.trans sG)⟩⟩
    · rintro σ HA ⟨x1, x2, rfl, sA⟩
      walk_at "rd"
      have TA := T8.same sA
      refine ne_ints (seq_of (sA _ _ G8)) (seq_of (sA _ _ P8)) ⟨_, rfl, iteN (by rw [decide_eq_true rfl]; decide) (ne_rows (seq_of (sA _ _ h8)) (seq_of (sA _ _ D8)) TA TA hF hF ⟨_, rfl, iteN (by rw [decide_eq_true rfl]; decide) ?_⟩)⟩
      refine ⟨g, xs, B, .ref gd, .lst ((dues B xs).map RD.tup), rfl, seq_of (sA _ _ G8), x0, by omega, hB, hB2, ⟨gd, ys, rfl, seq_of (sA _ _ h8), rows_are TA hF⟩, fun HB sB _ => ⟨_, rfl, iteP rfl ?_⟩, fun _ _ h => absurd rfl h⟩
      refine ⟨by decide, New.intro fun e1 HC n1 sC hC => ⟨by decide, New.intro fun e2 HD n2 sD hD => ?_⟩⟩
      exact ⟨e1, [], B, .ref e2, .lst [], rfl, seq_of (sD _ _ hC), fun n h => (nomatch h), by decide, hB, hB2, ⟨e2, [], rfl, seq_of hD, .nil⟩, fun HE sE _ => ⟨_, rfl, q HE⟩, fun _ _ h => absurd rfl h⟩
end
theorem all_mk {l : PySem.W.OpenLaw} {w : World} {K : PySem.W.Frag} {h : Heap} {mg : Str → Option Value} {fa f_law_drawn f_is_whole f_is_within f_need_line f_need_lines f_need_bound f_Kept_init f_Kept_touch f_law_lines f_is_fetch f_is_fetches f_law_due f_law_row f_law_forged f_law C_Kept : Addr} (X : K.In h) (G : h.Ns mainGlobals mg) (hfa : mg "law" = some (.ref fa))
    {od_law_drawn an_law_drawn : Option Addr} {sl_law_drawn : Array (Option Value)} {oc_law_drawn kV_law_drawn dc_law_drawn pm_law_drawn cd_law_drawn ct_law_drawn : Value}
    {od_is_whole an_is_whole : Option Addr} {sl_is_whole : Array (Option Value)} {oc_is_whole kV_is_whole dc_is_whole pm_is_whole cd_is_whole ct_is_whole : Value}
    {od_is_within an_is_within : Option Addr} {sl_is_within : Array (Option Value)} {oc_is_within kV_is_within dc_is_within pm_is_within cd_is_within ct_is_within : Value}
    {od_need_line an_need_line : Option Addr} {sl_need_line : Array (Option Value)} {oc_need_line kV_need_line dc_need_line pm_need_line cd_need_line ct_need_line : Value}
    {od_need_lines an_need_lines : Option Addr} {sl_need_lines : Array (Option Value)} {oc_need_lines kV_need_lines dc_need_lines pm_need_lines cd_need_lines ct_need_lines : Value}
    {od_need_bound an_need_bound : Option Addr} {sl_need_bound : Array (Option Value)} {oc_need_bound kV_need_bound dc_need_bound pm_need_bound cd_need_bound ct_need_bound : Value}
    {od_Kept_init an_Kept_init : Option Addr} {sl_Kept_init : Array (Option Value)} {oc_Kept_init kV_Kept_init dc_Kept_init pm_Kept_init cd_Kept_init ct_Kept_init : Value}
    {od_Kept_touch an_Kept_touch : Option Addr} {sl_Kept_touch : Array (Option Value)} {oc_Kept_touch kV_Kept_touch dc_Kept_touch pm_Kept_touch cd_Kept_touch ct_Kept_touch : Value}
    {od_law_lines an_law_lines : Option Addr} {sl_law_lines : Array (Option Value)} {oc_law_lines kV_law_lines dc_law_lines pm_law_lines cd_law_lines ct_law_lines : Value}
    {od_is_fetch an_is_fetch : Option Addr} {sl_is_fetch : Array (Option Value)} {oc_is_fetch kV_is_fetch dc_is_fetch pm_is_fetch cd_is_fetch ct_is_fetch : Value}
    {od_is_fetches an_is_fetches : Option Addr} {sl_is_fetches : Array (Option Value)} {oc_is_fetches kV_is_fetches dc_is_fetches pm_is_fetches cd_is_fetches ct_is_fetches : Value}
    {od_law_due an_law_due : Option Addr} {sl_law_due : Array (Option Value)} {oc_law_due kV_law_due dc_law_due pm_law_due cd_law_due ct_law_due : Value}
    {od_law_row an_law_row : Option Addr} {sl_law_row : Array (Option Value)} {oc_law_row kV_law_row dc_law_row pm_law_row cd_law_row ct_law_row : Value}
    {od_law_forged an_law_forged : Option Addr} {sl_law_forged : Array (Option Value)} {oc_law_forged kV_law_forged dc_law_forged pm_law_forged cd_law_forged ct_law_forged : Value}
    {od_law an_law : Option Addr} {sl_law : Array (Option Value)} {oc_law kV_law dc_law pm_law cd_law ct_law : Value}
    (aC_Kept : PySem.W.nsIn K mainGlobals "Kept" = some (some (.ref C_Kept)))
    (pg_Kept : PySem.W.plainGet K C_Kept Str.empty = true)
    (hd_Kept : PySem.W.hasDictIn K C_Kept = true)
    (po_Kept : PySem.W.plainOver K C_Kept = true)
    (sa_Kept : PySem.W.findIn K (.ref C_Kept) "__setattr__" = some (some (.builtin "object.__setattr__")))
    (mk_Kept : PySem.W.makesIn K C_Kept = true)
    (kc_Kept : PySem.W.keepIn K (.ref C_Kept) = true)
    (nA_Kept_bound : PySem.W.findIn K (.ref C_Kept) "bound" = some none)
    (nA_Kept_had : PySem.W.findIn K (.ref C_Kept) "had" = some none)
    (a_law_drawn : PySem.W.nsIn K mainGlobals "_law_drawn" = some (some (.ref f_law_drawn)))
    (l_law_drawn : K.lookup f_law_drawn = some ⟨oc_law_drawn, od_law_drawn, .func (PySem.W.fnOf "_law_drawn" "_law_drawn" (defArgs s_law_drawn) (defBody s_law_drawn) (defScope s_law_drawn) .none kV_law_drawn dc_law_drawn pm_law_drawn an_law_drawn cd_law_drawn ct_law_drawn), sl_law_drawn⟩)
    (c_law_drawn : PySem.W.codeIn K cd_law_drawn "_law_drawn" = true)
    (k_law_drawn : PySem.W.keepIn K (.ref f_law_drawn) = true)
    (a_is_whole : PySem.W.nsIn K mainGlobals "is_whole" = some (some (.ref f_is_whole)))
    (l_is_whole : K.lookup f_is_whole = some ⟨oc_is_whole, od_is_whole, .func (PySem.W.fnOf "is_whole" "is_whole" (defArgs s_is_whole) (defBody s_is_whole) (defScope s_is_whole) .none kV_is_whole dc_is_whole pm_is_whole an_is_whole cd_is_whole ct_is_whole), sl_is_whole⟩)
    (c_is_whole : PySem.W.codeIn K cd_is_whole "is_whole" = true)
    (k_is_whole : PySem.W.keepIn K (.ref f_is_whole) = true)
    (a_is_within : PySem.W.nsIn K mainGlobals "is_within" = some (some (.ref f_is_within)))
    (l_is_within : K.lookup f_is_within = some ⟨oc_is_within, od_is_within, .func (PySem.W.fnOf "is_within" "is_within" (defArgs s_is_within) (defBody s_is_within) (defScope s_is_within) .none kV_is_within dc_is_within pm_is_within an_is_within cd_is_within ct_is_within), sl_is_within⟩)
    (c_is_within : PySem.W.codeIn K cd_is_within "is_within" = true)
    (k_is_within : PySem.W.keepIn K (.ref f_is_within) = true)
    (a_need_line : PySem.W.nsIn K mainGlobals "need_line" = some (some (.ref f_need_line)))
    (l_need_line : K.lookup f_need_line = some ⟨oc_need_line, od_need_line, .func (PySem.W.fnOf "need_line" "need_line" (defArgs s_need_line) (defBody s_need_line) (defScope s_need_line) .none kV_need_line dc_need_line pm_need_line an_need_line cd_need_line ct_need_line), sl_need_line⟩)
    (c_need_line : PySem.W.codeIn K cd_need_line "need_line" = true)
    (k_need_line : PySem.W.keepIn K (.ref f_need_line) = true)
    (a_need_lines : PySem.W.nsIn K mainGlobals "need_lines" = some (some (.ref f_need_lines)))
    (l_need_lines : K.lookup f_need_lines = some ⟨oc_need_lines, od_need_lines, .func (PySem.W.fnOf "need_lines" "need_lines" (defArgs s_need_lines) (defBody s_need_lines) (defScope s_need_lines) .none kV_need_lines dc_need_lines pm_need_lines an_need_lines cd_need_lines ct_need_lines), sl_need_lines⟩)
    (c_need_lines : PySem.W.codeIn K cd_need_lines "need_lines" = true)
    (k_need_lines : PySem.W.keepIn K (.ref f_need_lines) = true)
    (a_need_bound : PySem.W.nsIn K mainGlobals "need_bound" = some (some (.ref f_need_bound)))
    (l_need_bound : K.lookup f_need_bound = some ⟨oc_need_bound, od_need_bound, .func (PySem.W.fnOf "need_bound" "need_bound" (defArgs s_need_bound) (defBody s_need_bound) (defScope s_need_bound) .none kV_need_bound dc_need_bound pm_need_bound an_need_bound cd_need_bound ct_need_bound), sl_need_bound⟩)
    (c_need_bound : PySem.W.codeIn K cd_need_bound "need_bound" = true)
    (k_need_bound : PySem.W.keepIn K (.ref f_need_bound) = true)
    (a_Kept_init : PySem.W.findIn K (.ref C_Kept) "__init__" = some (some (.ref f_Kept_init)))
    (i_Kept_init : PySem.W.isFn K (.ref f_Kept_init) = true)
    (l_Kept_init : K.lookup f_Kept_init = some ⟨oc_Kept_init, od_Kept_init, .func (PySem.W.fnOf "__init__" "Kept.__init__" (defArgs s_Kept_init) (defBody s_Kept_init) (defScope s_Kept_init) .none kV_Kept_init dc_Kept_init pm_Kept_init an_Kept_init cd_Kept_init ct_Kept_init), sl_Kept_init⟩)
    (c_Kept_init : PySem.W.codeIn K cd_Kept_init "Kept.__init__" = true)
    (k_Kept_init : PySem.W.keepIn K (.ref f_Kept_init) = true)
    (a_Kept_touch : PySem.W.findIn K (.ref C_Kept) "touch" = some (some (.ref f_Kept_touch)))
    (i_Kept_touch : PySem.W.isFn K (.ref f_Kept_touch) = true)
    (l_Kept_touch : K.lookup f_Kept_touch = some ⟨oc_Kept_touch, od_Kept_touch, .func (PySem.W.fnOf "touch" "Kept.touch" (defArgs s_Kept_touch) (defBody s_Kept_touch) (defScope s_Kept_touch) .none kV_Kept_touch dc_Kept_touch pm_Kept_touch an_Kept_touch cd_Kept_touch ct_Kept_touch), sl_Kept_touch⟩)
    (c_Kept_touch : PySem.W.codeIn K cd_Kept_touch "Kept.touch" = true)
    (k_Kept_touch : PySem.W.keepIn K (.ref f_Kept_touch) = true)
    (a_law_lines : PySem.W.nsIn K mainGlobals "_law_lines" = some (some (.ref f_law_lines)))
    (l_law_lines : K.lookup f_law_lines = some ⟨oc_law_lines, od_law_lines, .func (PySem.W.fnOf "_law_lines" "_law_lines" (defArgs s_law_lines) (defBody s_law_lines) (defScope s_law_lines) .none kV_law_lines dc_law_lines pm_law_lines an_law_lines cd_law_lines ct_law_lines), sl_law_lines⟩)
    (c_law_lines : PySem.W.codeIn K cd_law_lines "_law_lines" = true)
    (k_law_lines : PySem.W.keepIn K (.ref f_law_lines) = true)
    (a_is_fetch : PySem.W.nsIn K mainGlobals "is_fetch" = some (some (.ref f_is_fetch)))
    (l_is_fetch : K.lookup f_is_fetch = some ⟨oc_is_fetch, od_is_fetch, .func (PySem.W.fnOf "is_fetch" "is_fetch" (defArgs s_is_fetch) (defBody s_is_fetch) (defScope s_is_fetch) .none kV_is_fetch dc_is_fetch pm_is_fetch an_is_fetch cd_is_fetch ct_is_fetch), sl_is_fetch⟩)
    (c_is_fetch : PySem.W.codeIn K cd_is_fetch "is_fetch" = true)
    (k_is_fetch : PySem.W.keepIn K (.ref f_is_fetch) = true)
    (a_is_fetches : PySem.W.nsIn K mainGlobals "is_fetches" = some (some (.ref f_is_fetches)))
    (l_is_fetches : K.lookup f_is_fetches = some ⟨oc_is_fetches, od_is_fetches, .func (PySem.W.fnOf "is_fetches" "is_fetches" (defArgs s_is_fetches) (defBody s_is_fetches) (defScope s_is_fetches) .none kV_is_fetches dc_is_fetches pm_is_fetches an_is_fetches cd_is_fetches ct_is_fetches), sl_is_fetches⟩)
    (c_is_fetches : PySem.W.codeIn K cd_is_fetches "is_fetches" = true)
    (k_is_fetches : PySem.W.keepIn K (.ref f_is_fetches) = true)
    (a_law_due : PySem.W.nsIn K mainGlobals "_law_due" = some (some (.ref f_law_due)))
    (l_law_due : K.lookup f_law_due = some ⟨oc_law_due, od_law_due, .func (PySem.W.fnOf "_law_due" "_law_due" (defArgs s_law_due) (defBody s_law_due) (defScope s_law_due) .none kV_law_due dc_law_due pm_law_due an_law_due cd_law_due ct_law_due), sl_law_due⟩)
    (c_law_due : PySem.W.codeIn K cd_law_due "_law_due" = true)
    (k_law_due : PySem.W.keepIn K (.ref f_law_due) = true)
    (a_law_row : PySem.W.nsIn K mainGlobals "_law_row" = some (some (.ref f_law_row)))
    (l_law_row : K.lookup f_law_row = some ⟨oc_law_row, od_law_row, .func (PySem.W.fnOf "_law_row" "_law_row" (defArgs s_law_row) (defBody s_law_row) (defScope s_law_row) .none kV_law_row dc_law_row pm_law_row an_law_row cd_law_row ct_law_row), sl_law_row⟩)
    (c_law_row : PySem.W.codeIn K cd_law_row "_law_row" = true)
    (k_law_row : PySem.W.keepIn K (.ref f_law_row) = true)
    (a_law_forged : PySem.W.nsIn K mainGlobals "_law_forged" = some (some (.ref f_law_forged)))
    (l_law_forged : K.lookup f_law_forged = some ⟨oc_law_forged, od_law_forged, .func (PySem.W.fnOf "_law_forged" "_law_forged" (defArgs s_law_forged) (defBody s_law_forged) (defScope s_law_forged) .none kV_law_forged dc_law_forged pm_law_forged an_law_forged cd_law_forged ct_law_forged), sl_law_forged⟩)
    (c_law_forged : PySem.W.codeIn K cd_law_forged "_law_forged" = true)
    (k_law_forged : PySem.W.keepIn K (.ref f_law_forged) = true)
    (a_law : PySem.W.nsIn K mainGlobals "law" = some (some (.ref f_law)))
    (l_law : K.lookup f_law = some ⟨oc_law, od_law, .func (PySem.W.fnOf "law" "law" (defArgs s_law) (defBody s_law) (defScope s_law) .none kV_law dc_law pm_law an_law cd_law ct_law), sl_law⟩)
    (c_law : PySem.W.codeIn K cd_law "law" = true)
    (k_law : PySem.W.keepIn K (.ref f_law) = true)
    (n_bool : PySem.W.nsIn K mainGlobals "bool" = some none)
    (n_int : PySem.W.nsIn K mainGlobals "int" = some none)
    (n_isinstance : PySem.W.nsIn K mainGlobals "isinstance" = some none)
    (n_len : PySem.W.nsIn K mainGlobals "len" = some none)
    (n_list : PySem.W.nsIn K mainGlobals "list" = some none)
    (n_max : PySem.W.nsIn K mainGlobals "max" = some none)
    (n_range : PySem.W.nsIn K mainGlobals "range" = some none)
    (n_str : PySem.W.nsIn K mainGlobals "str" = some none)
    (n_tuple : PySem.W.nsIn K mainGlobals "tuple" = some none)
    (n_zip : PySem.W.nsIn K mainGlobals "zip" = some none)
    {t_MOST_KEPT : Tok} (q_MOST_KEPT : PySem.W.nsIn K mainGlobals "MOST_KEPT" = some (some (.int 32 t_MOST_KEPT)))
    : ∃ fd : FuncData, (∀ (s : Shared) (v : Value), BindsTo s fd ⟨[v], []⟩ [("_law_script", v)]) ∧ ∀ base : Heap, K.In base → base.Ns mainGlobals mg → FnOk l.prog w K mg base CX0 7 fa fd ["_law_script"] (spLaw K) := by
  have e := hfa.symm.trans (PySem.W.mg_of X G a_law)
  cases e
  have F_law_drawn := fun_mk (st := s_law_drawn) l_law_drawn c_law_drawn k_law_drawn
  have F_is_whole := fun_mk (st := s_is_whole) l_is_whole c_is_whole k_is_whole
  have F_is_within := fun_mk (st := s_is_within) l_is_within c_is_within k_is_within
  have F_need_line := fun_mk (st := s_need_line) l_need_line c_need_line k_need_line
  have F_need_lines := fun_mk (st := s_need_lines) l_need_lines c_need_lines k_need_lines
  have F_need_bound := fun_mk (st := s_need_bound) l_need_bound c_need_bound k_need_bound
  have F_Kept_init := fun_mk (st := s_Kept_init) l_Kept_init c_Kept_init k_Kept_init
  have F_Kept_touch := fun_mk (st := s_Kept_touch) l_Kept_touch c_Kept_touch k_Kept_touch
  have F_law_lines := fun_mk (st := s_law_lines) l_law_lines c_law_lines k_law_lines
  have F_is_fetch := fun_mk (st := s_is_fetch) l_is_fetch c_is_fetch k_is_fetch
  have F_is_fetches := fun_mk (st := s_is_fetches) l_is_fetches c_is_fetches k_is_fetches
  have F_law_due := fun_mk (st := s_law_due) l_law_due c_law_due k_law_due
  have F_law_row := fun_mk (st := s_law_row) l_law_row c_law_row k_law_row
  have F_law_forged := fun_mk (st := s_law_forged) l_law_forged c_law_forged k_law_forged
  have F_law := fun_mk (st := s_law) l_law c_law k_law
  have c_MOST_KEPT : ∃ t, mg "MOST_KEPT" = some (.int 32 t) := ⟨_, PySem.W.mg_of X G q_MOST_KEPT⟩
  have z_bool : mg "bool" = none := PySem.W.mg_none_of X G n_bool
  have z_int : mg "int" = none := PySem.W.mg_none_of X G n_int
  have z_isinstance : mg "isinstance" = none := PySem.W.mg_none_of X G n_isinstance
  have z_len : mg "len" = none := PySem.W.mg_none_of X G n_len
  have z_list : mg "list" = none := PySem.W.mg_none_of X G n_list
  have z_max : mg "max" = none := PySem.W.mg_none_of X G n_max
  have z_range : mg "range" = none := PySem.W.mg_none_of X G n_range
  have z_str : mg "str" = none := PySem.W.mg_none_of X G n_str
  have z_tuple : mg "tuple" = none := PySem.W.mg_none_of X G n_tuple
  have z_zip : mg "zip" = none := PySem.W.mg_none_of X G n_zip
  have K_Kept : Cls K C_Kept := ⟨pg_Kept, hd_Kept, po_Kept, sa_Kept⟩
  have A_Kept_bound : NoAttr K C_Kept "bound" := nA_Kept_bound
  have A_Kept_had : NoAttr K C_Kept "had" := nA_Kept_had
  refine ⟨PySem.W.fnOf "law" "law" (defArgs s_law) (defBody s_law) (defScope s_law) .none kV_law dc_law pm_law an_law cd_law ct_law, fun s v => .of_eq rfl, fun base _ _ => ?_⟩
  have D_law_drawn : Dn l.prog w K mg base CX0 1 "_law_drawn" ["_law_cell", "_law_sizes"] (spDrawn K) := ⟨⟨_, _, ok_drawn F_law_drawn, PySem.W.mg_of X G a_law_drawn, k_law_drawn, F_law_drawn.binds (ps := ["_law_cell", "_law_sizes"]) fun _ _ _ _ _ _ us hl => match us, hl with | [_, _], _ => rfl⟩⟩
  have D_is_whole : Dn l.prog w K mg base CX0 1 "is_whole" ["thing"] (spIsWhole K) := ⟨⟨_, _, ok_isWhole F_is_whole z_isinstance z_int z_bool, PySem.W.mg_of X G a_is_whole, k_is_whole, F_is_whole.binds (ps := ["thing"]) fun _ _ _ _ _ _ us hl => match us, hl with | [_], _ => rfl⟩⟩
  have D_is_within : Dn l.prog w K mg base CX0 2 "is_within" ["thing", "low", "high"] (spIsWithin K) := ⟨⟨_, _, ok_isWithin F_is_within D_is_whole, PySem.W.mg_of X G a_is_within, k_is_within, F_is_within.binds (ps := ["thing", "low", "high"]) fun _ _ _ _ _ _ us hl => match us, hl with | [_, _, _], _ => rfl⟩⟩
  have D_need_line : Dn l.prog w K mg base CX0 2 "need_line" ["line"] spNeedLine := ⟨⟨_, _, ok_needLine F_need_line D_is_whole, PySem.W.mg_of X G a_need_line, k_need_line, F_need_line.binds (ps := ["line"]) fun _ _ _ _ _ _ us hl => match us, hl with | [_], _ => rfl⟩⟩
  have D_need_lines : Dn l.prog w K mg base CX0 3 "need_lines" ["lines"] (spNeedLines K) := ⟨⟨_, _, ok_needLines F_need_lines D_need_line, PySem.W.mg_of X G a_need_lines, k_need_lines, F_need_lines.binds (ps := ["lines"]) fun _ _ _ _ _ _ us hl => match us, hl with | [_], _ => rfl⟩⟩
  have D_need_bound : Dn l.prog w K mg base CX0 3 "need_bound" ["most"] spNeedBound := ⟨⟨_, _, ok_needBound F_need_bound c_MOST_KEPT D_is_within, PySem.W.mg_of X G a_need_bound, k_need_bound, F_need_bound.binds (ps := ["most"]) fun _ _ _ _ _ _ us hl => match us, hl with | [_], _ => rfl⟩⟩
  have M_Kept : Mn l.prog w K mg base CX0 4 C_Kept "Kept" ["self", "most"] (spKInit C_Kept) := ⟨⟨_, _, ⟨mk_Kept, a_Kept_init, i_Kept_init, kc_Kept⟩, ok_kInit F_Kept_init K_Kept A_Kept_bound A_Kept_had D_need_bound, PySem.W.mg_of X G aC_Kept, F_Kept_init.binds (ps := ["self", "most"]) fun _ _ _ _ _ _ us hl => match us, hl with | [_, _], _ => rfl⟩⟩
  have N_Kept_touch : Nn l.prog w K mg base CX0 3 C_Kept "touch" ["self", "line"] (spTouch C_Kept) := ⟨K_Kept, ⟨_, _, ⟨a_Kept_touch, i_Kept_touch, k_Kept_touch⟩, ok_touch F_Kept_touch z_len K_Kept A_Kept_bound A_Kept_had D_need_line, F_Kept_touch.binds (ps := ["self", "line"]) fun _ _ _ _ _ _ us hl => match us, hl with | [_, _], _ => rfl⟩⟩
  have D_law_lines : Dn l.prog w K mg base CX0 2 "_law_lines" ["_law_script"] (spLines K) := ⟨⟨_, _, ok_lines F_law_lines z_len z_range D_law_drawn, PySem.W.mg_of X G a_law_lines, k_law_lines, F_law_lines.binds (ps := ["_law_script"]) fun _ _ _ _ _ _ us hl => match us, hl with | [_], _ => rfl⟩⟩
  have D_is_fetch : Dn l.prog w K mg base CX0 2 "is_fetch" ["row", "line", "due"] (spIsFetch K) := ⟨⟨_, _, ok_isFetch F_is_fetch z_isinstance z_tuple z_bool z_len D_is_whole, PySem.W.mg_of X G a_is_fetch, k_is_fetch, F_is_fetch.binds (ps := ["row", "line", "due"]) fun _ _ _ _ _ _ us hl => match us, hl with | [_, _, _], _ => rfl⟩⟩
  have D_is_fetches : Dn l.prog w K mg base CX0 6 "is_fetches" ["lines", "most", "thing"] (spIsFetches K) := ⟨⟨_, _, ok_isFetches F_is_fetches z_isinstance z_list z_len z_zip D_need_lines K_Kept M_Kept N_Kept_touch D_is_fetch, PySem.W.mg_of X G a_is_fetches, k_is_fetches, F_is_fetches.binds (ps := ["lines", "most", "thing"]) fun _ _ _ _ _ _ us hl => match us, hl with | [_, _, _], _ => rfl⟩⟩
  have D_law_due : Dn l.prog w K mg base CX0 1 "_law_due" ["_law_lines_here", "_law_most"] (spDue K) := ⟨⟨_, _, ok_due F_law_due z_len, PySem.W.mg_of X G a_law_due, k_law_due, F_law_due.binds (ps := ["_law_lines_here", "_law_most"]) fun _ _ _ _ _ _ us hl => match us, hl with | [_, _], _ => rfl⟩⟩
  have D_law_row : Dn l.prog w K mg base CX0 1 "_law_row" ["_law_way", "_law_row_here"] (spRow K) := ⟨⟨_, _, ok_row F_law_row z_int z_str, PySem.W.mg_of X G a_law_row, k_law_row, F_law_row.binds (ps := ["_law_way", "_law_row_here"]) fun _ _ _ _ _ _ us hl => match us, hl with | [_, _], _ => rfl⟩⟩
  have D_law_forged : Dn l.prog w K mg base CX0 2 "_law_forged" ["_law_way", "_law_at", "_law_due_here", "_law_lines_here", "_law_most"] (spForged K) := ⟨⟨_, _, ok_forged F_law_forged z_len z_tuple z_max D_law_row D_law_due, PySem.W.mg_of X G a_law_forged, k_law_forged, F_law_forged.binds (ps := ["_law_way", "_law_at", "_law_due_here", "_law_lines_here", "_law_most"]) fun _ _ _ _ _ _ us hl => match us, hl with | [_, _, _, _, _], _ => rfl⟩⟩
  exact ok_law F_law z_list z_range D_law_drawn D_law_lines D_law_due D_law_forged D_is_fetches
end K51
open PySem PySem.W PyProof.Rows
set_option maxHeartbeats 0 in
theorem PySem.Challenge.cw_roomslaid_k51_fetches_forged_holds : PySem.Challenge.rw_roomslaid_k51_fetches_forged.Holds := by
  w_on; o_law; k_head; (case hw => w_witness2)
  k_fill
  refine L2.walk_of (l := PySem.Challenge.rw_roomslaid_k51_fetches_forged) (n := 63) (k := 7) (x := "_law_script") (CX := fun _ => L2.CX0) (sp := fun w => K51.spLaw _) rfl (by decide) rfl ⟨rfl, by decide, by decide⟩ (fun w h Y => PySem.W.kIn_of Y) ?F (fun _ _ a ns hl _ hS => ⟨a, ns, rfl, hS, hl, fun _ => rfl⟩) (fun _ _ _ _ _ h => h)
  case F =>
    intro w mg fa h KX G hmg
    refine' K51.all_mk KX G hmg ?aC_Kept ?pg_Kept ?hd_Kept ?po_Kept ?sa_Kept ?mk_Kept ?kc_Kept ?nA_Kept_bound ?nA_Kept_had ?a_law_drawn ?l_law_drawn ?c_law_drawn ?k_law_drawn ?a_is_whole ?l_is_whole ?c_is_whole ?k_is_whole ?a_is_within ?l_is_within ?c_is_within ?k_is_within ?a_need_line ?l_need_line ?c_need_line ?k_need_line ?a_need_lines ?l_need_lines ?c_need_lines ?k_need_lines ?a_need_bound ?l_need_bound ?c_need_bound ?k_need_bound ?a_Kept_init ?i_Kept_init ?l_Kept_init ?c_Kept_init ?k_Kept_init ?a_Kept_touch ?i_Kept_touch ?l_Kept_touch ?c_Kept_touch ?k_Kept_touch ?a_law_lines ?l_law_lines ?c_law_lines ?k_law_lines ?a_is_fetch ?l_is_fetch ?c_is_fetch ?k_is_fetch ?a_is_fetches ?l_is_fetches ?c_is_fetches ?k_is_fetches ?a_law_due ?l_law_due ?c_law_due ?k_law_due ?a_law_row ?l_law_row ?c_law_row ?k_law_row ?a_law_forged ?l_law_forged ?c_law_forged ?k_law_forged ?a_law ?l_law ?c_law ?k_law ?n_bool ?n_int ?n_isinstance ?n_len ?n_list ?n_max ?n_range ?n_str ?n_tuple ?n_zip ?q_MOST_KEPT
    (case aC_Kept => k_is)
    (case pg_Kept => k_is)
    (case hd_Kept => k_is)
    (case po_Kept => k_is)
    (case sa_Kept => k_is)
    (case mk_Kept => k_is)
    (case kc_Kept => k_is)
    (case nA_Kept_bound => k_is)
    (case nA_Kept_had => k_is)
    (case a_law_drawn => k_is)
    (case l_law_drawn => k_is)
    (case c_law_drawn => k_is)
    (case k_law_drawn => k_is)
    (case a_is_whole => k_is)
    (case l_is_whole => k_is)
    (case c_is_whole => k_is)
    (case k_is_whole => k_is)
    (case a_is_within => k_is)
    (case l_is_within => k_is)
    (case c_is_within => k_is)
    (case k_is_within => k_is)
    (case a_need_line => k_is)
    (case l_need_line => k_is)
    (case c_need_line => k_is)
    (case k_need_line => k_is)
    (case a_need_lines => k_is)
    (case l_need_lines => k_is)
    (case c_need_lines => k_is)
    (case k_need_lines => k_is)
    (case a_need_bound => k_is)
    (case l_need_bound => k_is)
    (case c_need_bound => k_is)
    (case k_need_bound => k_is)
    (case a_Kept_init => k_is)
    (case i_Kept_init => k_is)
    (case l_Kept_init => k_is)
    (case c_Kept_init => k_is)
    (case k_Kept_init => k_is)
    (case a_Kept_touch => k_is)
    (case i_Kept_touch => k_is)
    (case l_Kept_touch => k_is)
    (case c_Kept_touch => k_is)
    (case k_Kept_touch => k_is)
    (case a_law_lines => k_is)
    (case l_law_lines => k_is)
    (case c_law_lines => k_is)
    (case k_law_lines => k_is)
    (case a_is_fetch => k_is)
    (case l_is_fetch => k_is)
    (case c_is_fetch => k_is)
    (case k_is_fetch => k_is)
    (case a_is_fetches => k_is)
    (case l_is_fetches => k_is)
    (case c_is_fetches => k_is)
    (case k_is_fetches => k_is)
    (case a_law_due => k_is)
    (case l_law_due => k_is)
    (case c_law_due => k_is)
    (case k_law_due => k_is)
    (case a_law_row => k_is)
    (case l_law_row => k_is)
    (case c_law_row => k_is)
    (case k_law_row => k_is)
    (case a_law_forged => k_is)
    (case l_law_forged => k_is)
    (case c_law_forged => k_is)
    (case k_law_forged => k_is)
    (case a_law => k_is)
    (case l_law => k_is)
    (case c_law => k_is)
    (case k_law => k_is)
    (case n_bool => k_is)
    (case n_int => k_is)
    (case n_isinstance => k_is)
    (case n_len => k_is)
    (case n_list => k_is)
    (case n_max => k_is)
    (case n_range => k_is)
    (case n_str => k_is)
    (case n_tuple => k_is)
    (case n_zip => k_is)
    (case q_MOST_KEPT => k_is)
