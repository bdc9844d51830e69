import PyProof.Rows.All
import Wide.All
import OpenK.AllK
import Wide.FinOn
import HandS.ForMost
import HandS.NoneIn
import HandS.IsInst
import HandS.Wide
import HandS.WideBits
import HandS.More
import HandS.SetFor
import PyProof.LongRange
import PySem.Challenge.RW_roomslaid_k04_places_and_shares
set_option Elab.async false
set_option linter.all false
set_option maxRecDepth 100000
set_option maxHeartbeats 4000000
/-! my base: short calls, heaps, readings by simp -/
namespace Rb
open PySem PySem.Spec PyProof.Rows L2

/-! ### a def of the text with its promise -/
structure Dn (P : Program) (w : World) (K : PySem.W.Frag) (mg : Str → Option Value) (base : Heap) (CX : CXT) (k : Nat) (x : Str) (ps : List Str) (sp : Sp) : Prop where
  ex : ∃ f fd, FnOk P w K mg base CX k f fd ps sp ∧ mg x = some (.ref f) ∧ PySem.W.keepIn K (.ref f) = true ∧ Binds K fd ps []
section
variable {X : Cx} {CX : CXT} {k : Nat} {ps : List Str} {sp : Sp} {E : XK} {x : Str} {p pos : Pos} {e : Expr} {es : List Expr} {t : TA}
theorem pe_cd (D : Dn X.prog X.w X.K X.mg X.base CX k x ps sp) (hr : Room k X.A) (hg : Gl X x) (hx : Passes CX X E) (ha : PA X (e :: es) t)
    (hdb : (x == ("__debug__" : Str)) = false := by decide) (he : starEach (e :: es) X.env = (false, eval e X.env) :: starEach es X.env := by rfl) (hpl : (backTo pos (starEach es X.env)).any (·.1) = false := by rfl) :
    PE X (.Call (.Name x p) (e :: es) [] pos) (tCall sp [] E t) := by
  obtain ⟨f, fd, F, m, kp, b⟩ := D.ex
  exact pe_call F hr hg m kp b .nil hx ha hdb he hpl
theorem pe_cd0 (D : Dn X.prog X.w X.K X.mg X.base CX k x ps sp) (hr : Room k X.A) (hg : Gl X x) (hx : Passes CX X E)
    (hdb : (x == ("__debug__" : Str)) = false := by decide) : PE X (.Call (.Name x p) [] [] pos) (tCall sp [] E tNil) := by
  obtain ⟨f, fd, F, m, kp, b⟩ := D.ex
  exact pe_call0 F hr hg m kp b .nil hx hdb
end

/-! ### heaps -/
/-- all but a is as it was -/
def Off (a : Addr) (H H' : Hp) : Prop := ∀ b o, b ≠ a → H b = some o → H' b = some o
theorem Off.refl {a : Addr} (H : Hp) : Off a H H := fun _ _ _ h => h
theorem Off.trans {a : Addr} {H H1 H2 : Hp} (p : Off a H H1) (q : Off a H1 H2) : Off a H H2 := fun b o n h => q b o n (p b o n h)
theorem Off.of {a : Addr} {H H' : Hp} (s : Same H H') : Off a H H' := fun b o _ h => s b o h
theorem Off.upd {a : Addr} {H : Hp} {o : HO} : Off a H (upd H a o) := fun b u n h => by rw [upd_ne n]; exact h
theorem Off.at {a b : Addr} {H H' : Hp} {o u : HO} (f : Off a H H') (h : H b = some o) (ha : H a = some u) (ne : o ≠ u) : H' b = some o := f b o (ne_of h ha ne) h
theorem same_new {H : Hp} {p : Addr} {o : HO} (h : H p = none) : Same H (upd H p o) := fun b u e => by rw [upd_ne (ne_of_none e h)]; exact e
/-- a new object: its place, the heap from then on -/
theorem new_intro {H : Hp} {o : HO} {Q : VK} (h : ∀ p H1, H p = none → Same H H1 → H1 p = some o → Q (.ref p) H1) : ∀ p, H p = none → Q (.ref p) (upd H p o) := fun p hp => h p _ hp (same_new hp) upd_same
theorem Same.rd {H H' : Hp} {a : Addr} {u : HO} (s : Same H H') (h : Rd H a u) : Rd H' a u := by
  rcases h with h | ⟨o, h⟩
  · exact .inl (s _ _ h)
  · exact .inr ⟨o, s _ _ h⟩
theorem Same.seqT {K : PySem.W.Frag} {H H' : Hp} {a : Addr} {xs : List V} (e : Same H H') (h : SqT K H a xs) : SqT K H' a xs := by
  rcases h with h | h
  · exact .inl (Same.rd e h)
  · exact .inr h
theorem seq_of {K : PySem.W.Frag} {H : Hp} {a : Addr} {xs : List V} (h : H a = some (.lst xs)) : SqL K H a xs := .inl (.inl h)
theorem seqT_of {K : PySem.W.Frag} {H : Hp} {a : Addr} {xs : List V} (h : H a = some (.tup xs)) : SqT K H a xs := .inl (.inl h)
theorem Off.seq {K : PySem.W.Frag} {a b : Addr} {H H' : Hp} {xs ys : List V} (f : Off a H H') (h : SqL K H b xs) (ha : H a = some (.lst ys)) (hb : b ≠ a) : SqL K H' b xs := by
  rcases h with (h | ⟨o, h⟩) | h
  · exact .inl (.inl (f _ _ hb h))
  · exact .inl (.inr ⟨o, f _ _ hb h⟩)
  · exact .inr h
theorem Off.frz {a b : Addr} {H H' : Hp} {o : Obj} {u : HO} {ys : List V} (f : Off a H H') (h : H b = some (.frz o u)) (ha : H a = some (.lst ys)) : H' b = some (.frz o u) := f.at h ha (by intro z; cases z)
/-- made since H, changed as one likes -/
theorem Same.mut {H H' : Hp} {p : Addr} {o : HO} (s : Same H H') (h : H p = none) : Same H (upd H' p o) := fun b u e => by rw [upd_ne (ne_of_none e h)]; exact s b u e
theorem Same.off {a : Addr} {H H1 H2 : Hp} (s : Same H H1) (h : H a = none) (f : Off a H1 H2) : Same H H2 := fun b u e => f b u (ne_of_none e h) (s b u e)
theorem none_back {H H' : Hp} {p : Addr} (s : Same H H') (h : H' p = none) : H p = none := s.free h
theorem Off.none {a p : Addr} {H H' : Hp} {u : HO} (f : Off a H H') (ha : H a = some u) (ha' : H' p = Option.none) (h' : ∃ o, H' a = some o) : H p = Option.none := by
  cases q : H p with
  | none => rfl
  | some o =>
    by_cases e : p = a
    · subst e
      obtain ⟨o', h'⟩ := h'
      rw [h'] at ha'; cases ha'
    · rw [f p o e q] at ha'; cases ha'
/-! ### what comes new, what is changed: told by letters -/
def New (H : Hp) (o : HO) (R : Addr → Hp → Prop) : Prop := ∀ p, H p = none → R p (upd H p o)
theorem New.intro {H : Hp} {o : HO} {R : Addr → Hp → Prop} (h : ∀ p H2, H p = none → Same H H2 → H2 p = some o → R p H2) : New H o R := fun p hp => h p _ hp (same_new hp) upd_same
def Upd (H : Hp) (a : Addr) (o : HO) (R : Hp → Prop) : Prop := R (upd H a o)
theorem Upd.intro {H : Hp} {a : Addr} {o : HO} {R : Hp → Prop} (h : ∀ H2, Off a H H2 → H2 a = some o → R H2) : Upd H a o R := h _ Off.upd upd_same
def Loop (J : It) (g : TG) (tb : TS) (D : Ends) (σ : L2.St) (H : Hp) : Prop := ∃ W : Nat → Nat → L2.St → Hp → Prop, (∃ m, W 0 m σ H) ∧ ∀ i m σ H, W i m σ H →
  (J.stop i H ∧ D.nx σ H) ∨ (J.go i H ∧ ∃ N : L2.St → Hp → Prop, (∀ σ' H', N σ' H' → ∃ m', m' < m ∧ W (i + 1) m' σ' H') ∧ ∀ x H', J.yld i H x H' → g x σ H' fun σ2 H2 => tb { D with nx := N, ct := N, bk := D.nx } σ2 H2)
def Cmp (J : It) (g : TG) (tt : TT) (te : TE) (vs : List Nat) (σ : L2.St) (H1 : Hp) (Q : VK) : Prop := ∀ D, H1 D = none → ∃ W : Nat → Nat → Hp → Prop, (∃ m, W 0 m (upd H1 D (.lst []))) ∧ ∀ i m H, W i m H →
  (J.stop i H ∧ Q (.ref D) H) ∨ (J.go i H ∧ ∃ Nx : Hp → Prop, (∀ H', Nx H' → ∃ m', m' < m ∧ W (i + 1) m' H') ∧ ∀ x H', J.yld i H x H' → g x (wipe σ vs) H' fun σ2 H2 => wipe σ2 vs = wipe σ vs ∧ tt σ2 H2 fun b H3 =>
    if b = true then te σ2 H3 fun y H4 => ∃ acc, H4 D = some (.lst acc) ∧ acc.length < sizeLine ∧ Nx (upd H4 D (.lst (acc ++ [y]))) else Nx H3)
theorem tTup_n {t : TA} : tTup t = fun σ H Q => t σ H fun xs H1 => xs.length ≤ sizeLine ∧ New H1 (.tup xs) fun p H2 => Q (.ref p) H2 := rfl
theorem tLst_n {t : TA} : tLst t = fun σ H Q => t σ H fun xs H1 => xs.length ≤ sizeLine ∧ New H1 (.lst xs) fun p H2 => Q (.ref p) H2 := rfl
theorem rSlL_n {K : PySem.W.Frag} : rSlL K = fun x lo hi H Q => ∃ a xs, x = .ref a ∧ SqL K H a xs ∧ New H (.lst (cutV xs lo hi)) fun p H2 => Q (.ref p) H2 := rfl
theorem rAppend_n : rAppend = fun x vs H Q => ∃ l xs y, x = .ref l ∧ vs = [y] ∧ H l = some (.lst xs) ∧ xs.length < sizeLine ∧ Upd H l (.lst (xs ++ [y])) fun H2 => Q .non H2 := rfl
theorem rExtend_n : rExtend = fun x vs H Q => ∃ l b xs zs, x = .ref l ∧ vs = [.ref b] ∧ H l = some (.lst xs) ∧ H b = some (.lst zs) ∧ xs.length + zs.length ≤ sizeLine ∧ Upd H l (.lst (xs ++ zs)) fun H2 => Q .non H2 := rfl
theorem rPop_n : rPop = fun x vs H Q => ∃ l xs y, x = .ref l ∧ vs = [] ∧ H l = some (.lst xs) ∧ xs[xs.length - 1]? = some y ∧ Upd H l (.lst xs.dropLast) fun H2 => Q y H2 := rfl
theorem rClear_n : rClear = fun x vs H Q => ∃ l xs, x = .ref l ∧ vs = [] ∧ H l = some (.lst xs) ∧ Upd H l (.lst []) fun H2 => Q .non H2 := rfl
theorem rSetL_n : rSetL = fun o i v H Q => ∃ p xs k j, o = .ref p ∧ i = .int k ∧ H p = some (.lst xs) ∧ ixN xs.length k = some j ∧ Upd H p (.lst (xs.set j v)) fun H2 => Q H2 := rfl
theorem tFor_n {wi : TI} {g : TG} {tb : TS} : tFor wi g tb = fun D σ H => wi σ H fun J H1 => Loop J g tb D σ H1 := rfl
theorem tLc_n {wi : TI} {g : TG} {tt : TT} {te : TE} {vs : List Nat} : tLc wi g tt te vs = fun σ H Q => wi σ H fun J H1 => Cmp J g tt te vs σ H1 Q := rfl
/-! built-ins, by letters -/
def rDivmod : List V → Hp → VK → Prop := fun xs H Q => ∃ i j, xs = [.int i, .int j] ∧ CDiv i j ∧ New H (.tup [.int (i / j), .int (i % j)]) fun p H2 => Q (.ref p) H2
theorem call_divmodR {X : Cx} : CallR X (.builtin "divmod") rDivmod := call_divmod
def rListOf (K : PySem.W.Frag) : List V → Hp → VK → Prop := fun xs H Q => ∃ p ys, xs = [.ref p] ∧ (SqL K H p ys ∨ SqT K H p ys) ∧ New H (.lst ys) fun l H2 => Q (.ref l) H2
theorem call_listR {X : Cx} {K : PySem.W.Frag} (h : X.K = K := by rfl) : CallR X (.type "list") (rListOf K) := by subst h; exact call_list_of
def rTupOf (K : PySem.W.Frag) : List V → Hp → VK → Prop := fun xs H Q => ∃ p ys, xs = [.ref p] ∧ ((SqL K H p ys ∧ New H (.tup ys) fun l H2 => Q (.ref l) H2) ∨ (SqT K H p ys ∧ Q (.ref p) H))
theorem call_tupR {X : Cx} {K : PySem.W.Frag} (h : X.K = K := by rfl) : CallR X (.type "tuple") (rTupOf K) := by subst h; exact call_tuple_of
def rLenSeq (K : PySem.W.Frag) : List V → Hp → VK → Prop := fun xs H Q => ∃ p ys, xs = [.ref p] ∧ (SqL K H p ys ∨ SqT K H p ys) ∧ Q (.int ys.length) H
theorem call_lenR {X : Cx} {K : PySem.W.Frag} (h : X.K = K := by rfl) : CallR X (.builtin "len") (rLenSeq K) := by subst h; exact call_len_seq
def rMin2 : List V → Hp → VK → Prop := fun xs H Q => ∃ i j, xs = [.int i, .int j] ∧ Q (.int (if j < i then j else i)) H
def rMax2 : List V → Hp → VK → Prop := fun xs H Q => ∃ i j, xs = [.int i, .int j] ∧ Q (.int (if j > i then j else i)) H
theorem call_min2R {X : Cx} (hc : X.calm = true) : CallR X (.builtin "min") rMin2 := call_min2 hc
theorem call_max2R {X : Cx} (hc : X.calm = true) : CallR X (.builtin "max") rMax2 := call_max2 hc

theorem snocI {α : Type} {P : List α → Prop} (h0 : P []) (h1 : ∀ xs x, P xs → P (xs ++ [x])) (l : List α) : P l := by
  have h : ∀ r : List α, P r.reverse := fun r => by
    induction r with
    | nil => exact h0
    | cons x r ih =>
      rw [List.reverse_cons]
      exact h1 _ _ ih
  rw [← List.reverse_reverse l]
  exact h _
/-! ### kinds of things -/
def kinds : List String := ["NoneType", "bool", "int", "str", "list", "tuple", "dict"]
def kindIs (T U : String) : Bool := T == U || (T == "bool" && U == "int")
theorem kd_all : ∀ T ∈ kinds, ∀ U ∈ ["bool", "int", "str", "list", "tuple", "dict"], kitB T U = some (kindIs T U) := by decide +kernel
def Thg (K : PySem.W.Frag) (H : Hp) (x : V) (T : String) : Prop := TyX K H x (.type T) ∧ T ∈ kinds
def isWh : V → Bool
  | .int _ => true
  | _ => false
theorem isi {K : PySem.W.Frag} {H : Hp} {x : V} {T U : String} {b : Bool} {R : Bool → Prop} (ty : TyX K H x (.type T)) (h : kitB T U = some b) (q : R b) : ∃ (t u : Value), ClsV (.ty U) u ∧ TyX K H x t ∧ ∃ b', PySem.W.kitOne K t u = some b' ∧ R b' :=
  ⟨_, _, .ty U, ty, b, kit_ty h, q⟩
/-- isinstance of any thing -/
theorem isiT {K : PySem.W.Frag} {H : Hp} {x : V} {T U : String} {R : Bool → Prop} (t : Thg K H x T) (hU : U ∈ ["bool", "int", "str", "list", "tuple", "dict"]) (q : R (kindIs T U)) : ∃ (t u : Value), ClsV (.ty U) u ∧ TyX K H x t ∧ ∃ b', PySem.W.kitOne K t u = some b' ∧ R b' :=
  isi t.1 (kd_all T t.2 U hU) q
theorem thg_int {K : PySem.W.Frag} {H : Hp} {i : Int} : Thg K H (.int i) "int" := ⟨.base (.int i), by decide⟩
theorem thg_bl {K : PySem.W.Frag} {H : Hp} {b : Bool} : Thg K H (.bl b) "bool" := ⟨.base (.bl b), by decide⟩
theorem thg_non {K : PySem.W.Frag} {H : Hp} : Thg K H .non "NoneType" := ⟨.base .non, by decide⟩
theorem thg_str {K : PySem.W.Frag} {H : Hp} {z : Str} : Thg K H (.str z) "str" := ⟨.base (.str z), by decide⟩
theorem thg_lst {K : PySem.W.Frag} {H : Hp} {a : Addr} {xs : List V} (h : H a = some (.lst xs)) : Thg K H (.ref a) "list" := ⟨.base (.lst h), by decide⟩
theorem thg_dK {K : PySem.W.Frag} {H : Hp} {a : Addr} {xs : List (Key × V)} (h : H a = some (.dK xs)) : Thg K H (.ref a) "dict" := ⟨.base (.dK h), by decide⟩
theorem thg_tup {K : PySem.W.Frag} {H : Hp} {a : Addr} {xs : List V} (h : SqT K H a xs) : Thg K H (.ref a) "tuple" := by
  refine ⟨?_, by decide⟩
  rcases h with (h | ⟨o, h⟩) | ⟨o, _, _, h, hc, _⟩
  · exact .base (.tup h)
  · exact .fTuple h
  · exact .kTuple h hc
theorem thg_seq {K : PySem.W.Frag} {H : Hp} {a : Addr} {xs : List V} (h : SqL K H a xs) : Thg K H (.ref a) "list" := by
  refine ⟨?_, by decide⟩
  rcases h with (h | ⟨o, h⟩) | ⟨o, _, _, h, hc, _⟩
  · exact .base (.lst h)
  · exact .base (.frz h)
  · exact .kList h hc
/-- whole numbers and no others are of the kind int alone -/
theorem isWh_of {K : PySem.W.Frag} {H : Hp} {x : V} {T : String} (t : Thg K H x T) : (kindIs T "int" && !kindIs T "bool") = isWh x := by
  obtain ⟨ty, hT⟩ := t
  generalize hc : Value.type T = c at ty
  cases ty with
  | base b =>
    cases b with
    | ins e cl ha hn htk hm => cases hc
    | _ => cases hc; rfl
  | byt b =>
    cases hc
    exact absurd hT (by decide)
  | set e =>
    cases hc
    exact absurd hT (by decide)
  | kList e c => cases hc; rfl
  | kTuple e c => cases hc; rfl
  | kDict e c => cases hc; rfl
  | fTuple e => cases hc; rfl
  | fDict e => cases hc; rfl
/-! ### constants of the module -/
theorem pe_gi {X : Cx} {x : Str} {v : Int} {pos : Pos} (hg : Gl X x) (hm : ∃ t, X.mg x = some (.int v t)) (hd : (x == ("__debug__" : Str)) = false := by decide) : PE X (.Name x pos) (tC (.int v)) := by
  obtain ⟨t, hm⟩ := hm
  exact pe_glob hg hm ⟨t, rfl⟩ hd
theorem pe_gs {X : Cx} {x v : Str} {pos : Pos} (hg : Gl X x) (hm : ∃ t, X.mg x = some (.str v t)) (hd : (x == ("__debug__" : Str)) = false := by decide) : PE X (.Name x pos) (tC (.str v)) := by
  obtain ⟨t, hm⟩ := hm
  exact pe_glob hg hm ⟨t, rfl⟩ hd
/-! ### tuples in a list -/
def Tups (K : PySem.W.Frag) (H : Hp) : List V → List (List V) → Prop := Paired fun x d => ∃ a, x = .ref a ∧ SqT K H a d
theorem Tups.same {K : PySem.W.Frag} {H H' : Hp} {xs : List V} {ds : List (List V)} (t : Tups K H xs ds) (s : Same H H') : Tups K H' xs ds := Paired.mapP t fun x d ⟨a, e, h⟩ => ⟨a, e, Same.seqT s h⟩
theorem Tups.get {K : PySem.W.Frag} {H : Hp} : ∀ {xs : List V} {ds : List (List V)} {i : Nat} {x : V}, Tups K H xs ds → xs[i]? = some x → ∃ a d, ds[i]? = some d ∧ x = .ref a ∧ SqT K H a d
  | _, _, _, _, .nil, e => by simp at e
  | _, _, 0, _, .cons ⟨a, e1, h⟩ _, e => by
    cases e
    exact ⟨a, _, rfl, e1, h⟩
  | _, _, i + 1, x, .cons _ t, e => Tups.get (i := i) t (by simpa using e)
theorem Tups.append {K : PySem.W.Frag} {H : Hp} : ∀ {xs ys : List V} {ds es : List (List V)}, Tups K H xs ds → Tups K H ys es → Tups K H (xs ++ ys) (ds ++ es)
  | _, _, _, _, .nil, s => s
  | _, _, _, _, .cons r t, s => .cons r (Tups.append t s)
theorem Tups.take {K : PySem.W.Frag} {H : Hp} : ∀ {xs : List V} {ds : List (List V)} (n : Nat), Tups K H xs ds → Tups K H (xs.take n) (ds.take n)
  | _, _, 0, _ => .nil
  | _, _, _ + 1, .nil => .nil
  | _, _, n + 1, .cons r t => .cons r (Tups.take n t)
theorem Tups.len {K : PySem.W.Frag} {H : Hp} {xs : List V} {ds : List (List V)} (t : Tups K H xs ds) : xs.length = ds.length := Paired.length t
theorem SqT.off {K : PySem.W.Frag} {H H' : Hp} {D a : Addr} {xs ys : List V} (f : Off D H H') (hD : H D = some (.lst ys)) (h : SqT K H a xs) : SqT K H' a xs := by
  rcases h with (h | ⟨o, h⟩) | h
  · exact .inl (.inl (f.at h hD (by intro z; cases z)))
  · exact .inl (.inr ⟨o, f.at h hD (by intro z; cases z)⟩)
  · exact .inr h
theorem Tups.off {K : PySem.W.Frag} {H H' : Hp} {D : Addr} {xs ys : List V} {ds : List (List V)} (t : Tups K H xs ds) (f : Off D H H') (hD : H D = some (.lst ys)) : Tups K H' xs ds := Paired.mapP t fun x d ⟨a, e, h⟩ => ⟨a, e, SqT.off f hD h⟩
theorem SqL.off {K : PySem.W.Frag} {H H' : Hp} {D a : Addr} {xs : List V} (f : Off D H H') (n : a ≠ D) (h : SqL K H a xs) : SqL K H' a xs := by
  rcases h with (h | ⟨o, h⟩) | h
  · exact .inl (.inl (f _ _ n h))
  · exact .inl (.inr ⟨o, f _ _ n h⟩)
  · exact .inr h
theorem sz100 {n : Nat} (h : n ≤ 100000) : n ≤ sizeLine := Nat.le_trans h (by decide)
theorem sz100l {n : Nat} (h : n < 100000) : n < sizeLine := Nat.lt_of_lt_of_le h (by decide)
theorem head_int (ns : List Int) (m : Int) : ∃ z, atI (ns.map V.int ++ [.int m]) 0 = some (.int z) := by
  cases ns with
  | nil => exact ⟨m, rfl⟩
  | cons z r => exact ⟨z, atI_nat (j := 0) rfl⟩
theorem last_int {l : List Int} {z : Int} (h : l[l.length - 1]? = some z) : atI (l.map V.int) (-1) = some (.int z) := by
  have ne : l ≠ [] := fun e => by
    rw [e] at h
    cases h
  have e1 := List.dropLast_concat_getLast ne
  have e2 : l.getLast ne = z := by
    rw [List.getLast_eq_getElem]
    rw [List.getElem?_eq_getElem (by cases l <;> simp at ne ⊢)] at h
    exact Option.some.inj h
  rw [← e1, List.map_append, e2]
  exact atI_last _ _
/-! ### the rules over a written part that is named: within a comprehension, too -/
section
variable {X : Cx} {K : PySem.W.Frag}
theorem ix_listK (h : X.K = K := by rfl) : IxR X (rIxL K) := by subst h; exact ix_list
theorem ix_tupK (h : X.K = K := by rfl) : IxR X (rIxT K) := by subst h; exact ix_tup
theorem sl_listK (h : X.K = K := by rfl) : SlR X (rSlL K) := by subst h; exact sl_list
theorem sl_tupK (h : X.K = K := by rfl) : SlR X (rSlT K) := by subst h; exact sl_tup
theorem op_in_seqK (h : X.K = K := by rfl) : OpR X (compareOp .In) (rIn K false) := by subst h; exact op_in_seq
theorem op_notIn_seqK (h : X.K = K := by rfl) : OpR X (compareOp .NotIn) (rIn K true) := by subst h; exact op_notIn_seq
theorem op_eqDK (hu : X.A.units + 64 < cLine) (h : X.K = K := by rfl) : OpR X (compareOp .Eq) (rEqD K) := by subst h; exact op_eqD hu
theorem op_neDK (hu : X.A.units + 64 < cLine) (h : X.K = K := by rfl) : OpR X (compareOp .NotEq) (rNeD K) := by subst h; exact op_neD hu
theorem op_catTK (h : X.K = K := by rfl) : OpR X (binaryOp .Add) (rCatT K) := by subst h; exact op_catT
theorem call_isiK' (h : X.K = K := by rfl) : CallR X (.builtin "isinstance") (rIsi K) := by subst h; exact call_isi
theorem call_isiTK (h : X.K = K := by rfl) : CallR X (.builtin "isinstance") (rIsiT K) := by subst h; exact call_isiT
theorem cr_allK (hc : X.calm = true) (h : X.K = K := by rfl) : CallR X (.builtin "all") (rAll K) := by subst h; exact cr_all hc
theorem cr_anyK (hc : X.calm = true) (h : X.K = K := by rfl) : CallR X (.builtin "any") (rAny K) := by subst h; exact cr_any hc
theorem cr_sumK (hc : X.calm = true) (h : X.K = K := by rfl) : CallR X (.builtin "sum") (rSum K) := by subst h; exact cr_sum hc
theorem pi_listK {tg l : Expr} {tl : TE} (hl : PE X l tl) (h : X.K = K := by rfl) : PI X tg l (iList K tl) := by subst h; exact pi_list hl
theorem pi_tupK {tg l : Expr} {tl : TE} (hl : PE X l tl) (h : X.K = K := by rfl) : PI X tg l (iTup K tl) := by subst h; exact pi_tup hl
theorem pi_reversedK {tg e : Expr} {ta : TA} {p pos : Pos} (hg : Gl X "reversed") (hm : X.mg "reversed" = none) (ha : PA X [e] ta) (hs : starEach [e] X.env = [(false, eval e X.env)] := by rfl) (h : X.K = K := by rfl) : PI X tg (.Call (.Name "reversed" p) [e] [] pos) (iRev K ta) := by subst h; exact pi_reversed hg hm ha hs
theorem pe_bm0K {o : Expr} {to : TE} {name : Str} {apos cpos : Pos} {T id : String} {r : V → List V → Hp → VK → Prop} (pa : PlainAttrs T) (slot : Slot T name id) (hty : typeOf (.builtin id) = pure (.type "method_descriptor")) (hm : MtR X id r) (ho : PE X o to)
    (hbase : attributeBase o name X.env (eval o X.env) = eval o X.env := by rfl) (hline : (apos.endLine == cpos.line) = true := by rfl) (h : X.K = K := by rfl) : PE X (.Call (.Attribute o name apos) [] [] cpos) (tBM0 K T r to) := by subst h; exact pe_bm0 pa slot hty hm ho hbase hline
theorem pe_bmK {o e : Expr} {es : List Expr} {to : TE} {t : TA} {name : Str} {apos cpos : Pos} {T id : String} {r : V → List V → Hp → VK → Prop} (pa : PlainAttrs T) (slot : Slot T name id) (hty : typeOf (.builtin id) = pure (.type "method_descriptor")) (hm : MtR X id r) (ho : PE X o to) (ha : PA X (e :: es) t)
    (hbase : attributeBase o name X.env (eval o X.env) = eval o X.env := by rfl)
    (hfew : ((backTo cpos (starEach (e :: es) X.env)).all (fun x => !x.1) && (backToKw cpos (keywordEach [] X.env)).all (fun x => x.1.isSome)
      && decide ((e :: es).length + ([] : List Keyword).length + (if ([] : List Keyword).isEmpty then 0 else 1) < 30)) = true := by rfl)
    (hline : (apos.endLine == cpos.line) = true := by rfl) (hs : starEach (e :: es) X.env = (false, eval e X.env) :: starEach es X.env := by rfl) (hplain : (backTo cpos (starEach es X.env)).any (·.1) = false := by rfl) (h : X.K = K := by rfl) :
    PE X (.Call (.Attribute o name apos) (e :: es) [] cpos) (tBM K T r to t) := by subst h; exact pe_bm pa slot hty hm ho ha hbase hfew hline hs hplain
theorem mt_indexK (h : X.K = K := by rfl) : MtR X "list.index" (rIndex K) := by subst h; exact mt_index
theorem pi_enumK {e : Expr} {ta : TA} {p pos tpos : Pos} {elts : List Expr} {kk : Nat} (hg : Gl X "enumerate") (hm : X.mg "enumerate" = none) (ha : PA X [e] ta) (hs : starEach [e] X.env = [(false, eval e X.env)] := by rfl) (h : X.K = K := by rfl) :
    PI X (.Tuple elts kk tpos) (.Call (.Name "enumerate" p) [e] [] pos) (iEnum K ta) := by subst h; exact pi_enum hg hm ha hs
theorem pi_zipK {e e2 : Expr} {ta : TA} {p pos tpos : Pos} {elts : List Expr} {kk : Nat} (hg : Gl X "zip") (hm : X.mg "zip" = none) (ha : PA X [e, e2] ta)
    (hs : starEach [e, e2] X.env = (false, eval e X.env) :: starEach [e2] X.env := by rfl) (hpl : (backTo pos (starEach [e2] X.env)).any (·.1) = false := by rfl) (h : X.K = K := by rfl) :
    PI X (.Tuple elts kk tpos) (.Call (.Name "zip" p) [e, e2] [] pos) (iZip K ta) := by subst h; exact pi_zip hg hm ha hs hpl
theorem pe_fldK {e : Expr} {f : Str} {pos : Pos} {ta : TE} (he : PE X e ta) (hb : attributeBase e f X.env (eval e X.env) = eval e X.env) (h : X.K = K := by rfl) : PE X (.Attribute e f pos) (tFld K ta f) := by subst h; exact pe_fld he hb
end

/-! ### ranges of ints of any size, walked -/
theorem turn_long {P : Program} {w : World} {K : PySem.W.Frag} {tg : Expr} (it : Addr) (lo : Int) (n : Nat) : Turn P w K tg (Itr lo n) [it] it (fun i h => IsLongIter h it (lo + (i : Nat) * 1) ((n : Int) - (i : Nat)) 1) where
  mem := by simp
  obj := fun i h st b hb => by
    have e : b = it := by simpa using hb
    subst e
    exact ⟨_, st, fun v z => by
      have z' : Data.fields _ = Data.cell v := z
      cases z'⟩
  keep := fun i h h' st k => k it (by simp) _ st
  item := by
    intro X hP hw hK hc i pins s σ H E I hf st hg
    subst hP hw hK
    obtain ⟨f0, f1, f2, f3, f4, f5⟩ := hf it (by simp)
    have W := Walks.longrange (prog := X.prog) (w := X.w) (I.ok.hd hc) it lo 1 n
    refine W.item i s _ _ hg st fun v h' tk hv st' kk => ?_
    obtain ⟨t, rfl⟩ := hv
    have I1 : Inv X pins σ H { s with heap := h', toks := tk } := I.turned (fun b o hb e => kk b o (by simpa using hb) e) f0 f1 f3 f4 f5
    refine ⟨_, rfl, go_of (s := { s with heap := h', toks := tk }) (n := "longrange_iterator") st' rfl rfl (by decide) ⟨.int (lo + i), H, I1, ⟨t, ?_⟩, ⟨rfl, rfl⟩, st', fun b hb => (hf b hb).1⟩⟩
    rw [Int.mul_one]
  done := by
    intro X hP hw hK hc i pins s σ H E I hf st hg
    subst hP hw hK
    obtain ⟨f0, f1, f2, f3, f4, f5⟩ := hf it (by simp)
    exact wpAny_pyNext_long_end (I.ok.hd hc) st (by have : n ≤ i := hg; omega) fun h' eb => ⟨rfl, I.turned (t' := s.toks) (fun b o hb e => eb b o hb e) f0 f1 f3 f4 f5⟩
  self := fun _ _ _ _ _ st h => wpAny_pyIter_longiter st h
theorem range_itL {X : Cx} {tg : Expr} {pins : List (Addr × Obj)} {σ : L2.St} {H : Hp} {s : Shared} {R : It → Hp → Prop} {E : Value → Shared → Prop} {lo hi : Int} {t u v : Tok} {tk : Nat} (I : Inv X pins σ H s)
    (q : R (Itr lo (hi - lo).toNat) H) : wpAny (model X.prog X.w) X.A (pyIter (.ref s.heap.objs.size)) (PIE X pins σ tg R) E { s with heap := s.heap.push { cls := .type "range", data := .fields #[.int lo t, .int hi u, .int 1 v] }, toks := tk } := by
  have I1 : Inv X pins σ H { s with heap := s.heap.push { cls := .type "range", data := .fields #[.int lo t, .int hi u, .int 1 v] }, toks := tk } := I.kept fun b o e => Heap.get?_push_of_some _ e
  have e1 : lo + ((0 : Nat) : Int) * 1 = lo := by simp
  have e2 : (((hi - lo).toNat : Nat) : Int) - ((0 : Nat) : Int) = Builtin.Range.rangeSize lo hi 1 := by rw [rangeSize_one]; split <;> omega
  cases hs : Builtin.Range.small lo hi 1 with
  | true =>
    refine wpAny_pyIter_range (IsRange.new ..) hs ?_
    refine ⟨(s.heap.push { cls := .type "range", data := .fields #[.int lo t, .int hi u, .int 1 v] }).objs.size, [(s.heap.push { cls := .type "range", data := .fields #[.int lo t, .int hi u, .int 1 v] }).objs.size], _, _, H, rfl,
      I1.kept (t' := tk) fun b o e => Heap.get?_push_of_some _ e, turn_range _ lo (hi - lo).toNat, ?_, fun b hb => ?_, q⟩
    · show IsRangeIter _ _ (lo + ((0 : Nat) : Int) * 1) ((((hi - lo).toNat : Nat) : Int) - ((0 : Nat) : Int)) 1
      rw [e1, e2]
      exact Heap.get?_push_size _ rfl
    · have e : b = (s.heap.push { cls := .type "range", data := .fields #[.int lo t, .int hi u, .int 1 v] }).objs.size := by simpa using hb
      subst e
      exact I1.fpOk (Nat.le_refl _) (I1.hok.fresh (Nat.le_refl _))
  | false =>
    refine wpAny_pyIter_longrange (IsRange.new ..) hs ?_
    refine ⟨(s.heap.push { cls := .type "range", data := .fields #[.int lo t, .int hi u, .int 1 v] }).objs.size, [(s.heap.push { cls := .type "range", data := .fields #[.int lo t, .int hi u, .int 1 v] }).objs.size], _, _, H, rfl,
      I1.kept (t' := tk) fun b o e => Heap.get?_push_of_some _ e, turn_long _ lo (hi - lo).toNat, ?_, fun b hb => ?_, q⟩
    · show IsLongIter _ _ (lo + ((0 : Nat) : Int) * 1) ((((hi - lo).toNat : Nat) : Int) - ((0 : Nat) : Int)) 1
      rw [e1, e2]
      exact Heap.get?_push_size _ rfl
    · have e : b = (s.heap.push { cls := .type "range", data := .fields #[.int lo t, .int hi u, .int 1 v] }).objs.size := by simpa using hb
      subst e
      exact I1.fpOk (Nat.le_refl _) (I1.hok.fresh (Nat.le_refl _))
def iRngL1 (ta : TA) : TI := fun σ H R => ta σ H fun vs H1 => ∃ j : Int, vs = [.int j] ∧ R (Itr 0 j.toNat) H1
def iRngL2 (ta : TA) : TI := fun σ H R => ta σ H fun vs H1 => ∃ i j : Int, vs = [.int i, .int j] ∧ R (Itr i (j - i).toNat) H1
theorem pi_rangeL1 {X : Cx} {tg : Expr} {a : Expr} {ta : TA} {p pos : Pos} (hg : Gl X "range") (hm : X.mg "range" = none) (ha : PA X [a] ta) (hs : starEach [a] X.env = [(false, eval a X.env)] := by rfl) : PI X tg (.Call (.Name "range" p) [a] [] pos) (iRngL1 ta) := by
  refine ⟨fun pins s σ H R I h => ?_⟩
  refine Call_ (ld_blt I hg hm boot_range (PyProof.Rows.callWith_type1 (thn (ha.run pos pins s σ H _ I h) fun us s1 ⟨vs, H1, I1, r1, q1⟩ => ?_) hs rfl))
  obtain ⟨j, e, q⟩ := q1
  subst e
  cases r1 with
  | cons r rr =>
    cases rr
    obtain ⟨t, rfl⟩ := r
    exact call_range_1 (range_itL I1 (by simpa using q))
theorem pi_rangeL2 {X : Cx} {tg : Expr} {a b : Expr} {ta : TA} {p pos : Pos} (hg : Gl X "range") (hm : X.mg "range" = none) (ha : PA X [a, b] ta) (hs : starEach [a, b] X.env = [(false, eval a X.env), (false, eval b X.env)] := by rfl) (hs2 : starEach [b] X.env = [(false, eval b X.env)] := by rfl) :
    PI X tg (.Call (.Name "range" p) [a, b] [] pos) (iRngL2 ta) := by
  refine ⟨fun pins s σ H R I h => ?_⟩
  refine Call_ (ld_blt I hg hm boot_range (PyProof.Rows.callWith_type1 (thn (ha.run pos pins s σ H _ I h) fun us s1 ⟨vs, H1, I1, r1, q1⟩ => ?_) (by rw [hs, hs2]) (by rw [hs2]; rfl)))
  obtain ⟨i, j, e, q⟩ := q1
  subst e
  cases r1 with
  | cons r rr =>
    cases rr with
    | cons r' rr =>
      cases rr
      obtain ⟨t, rfl⟩ := r
      obtain ⟨t', rfl⟩ := r'
      exact call_range_2 (range_itL I1 q)
/-! ### objects of own classes -/
structure Mn (P : Program) (w : World) (K : PySem.W.Frag) (mg : Str → Option Value) (base : Heap) (CX : CXT) (k : Nat) (C : Addr) (x : Str) (ps : List Str) (sp : Sp) : Prop where
  ex : ∃ f fd, Mk K C f ∧ FnOk P w K mg base CX k f fd ps sp ∧ mg x = some (.ref C) ∧ Binds K fd ps []
structure Nn (P : Program) (w : World) (K : PySem.W.Frag) (mg : Str → Option Value) (base : Heap) (CX : CXT) (k : Nat) (C : Addr) (m : Str) (ps : List Str) (sp : Sp) : Prop where
  cl : Cls K C
  ex : ∃ f fd, Meth K C m f ∧ FnOk P w K mg base CX k f fd ps sp ∧ Binds K fd ps []
section
variable {X : Cx} {CX : CXT} {k : Nat} {C : Addr} {ps : List Str} {sp : Sp} {E : XK} {x m : Str} {p pos apos : Pos} {e o : Expr} {es : List Expr} {t : TA} {ta : TE}
theorem pe_mk (M : Mn X.prog X.w X.K X.mg X.base CX k C x ps sp) (hr : Room (k + 1) X.A) (hg : Gl X x) (hx : Passes CX X E) (ha : PA X (e :: es) t)
    (hdb : (x == ("__debug__" : Str)) = false := by decide) (he : starEach (e :: es) X.env = (false, eval e X.env) :: starEach es X.env := by rfl) (hpl : (backTo pos (starEach es X.env)).any (·.1) = false := by rfl) :
    PE X (.Call (.Name x p) (e :: es) [] pos) (tMake C sp [] E t) := by
  obtain ⟨f, fd, mk, F, hm, b⟩ := M.ex
  exact pe_make mk F hr hg hm b .nil hx ha hdb he hpl
theorem pe_mk0 (M : Mn X.prog X.w X.K X.mg X.base CX k C x ps sp) (hr : Room (k + 1) X.A) (hg : Gl X x) (hx : Passes CX X E)
    (hdb : (x == ("__debug__" : Str)) = false := by decide) : PE X (.Call (.Name x p) [] [] pos) (tMake C sp [] E tNil) := by
  obtain ⟨f, fd, mk, F, hm, b⟩ := M.ex
  exact pe_make0 mk F hr hg hm b .nil hx hdb
theorem pe_md {pl : Sem Bool} (ho : PE X o ta) (N : Nn X.prog X.w X.K X.mg X.base CX k C m ps sp) (hr : Room k X.A) (hx : Passes CX X E) (ha : PA X (e :: es) t)
    (hst : starEach (e :: es) X.env = (false, eval e X.env) :: starEach es X.env := by rfl) (hpl : (backTo pos (starEach es X.env)).any (·.1) = false := by rfl)
    (ht : eval (.Call (.Attribute o m apos) (e :: es) [] pos) X.env = (do
      let ov ← eval o X.env
      standAt apos.atName
      let (f, first) ← holding [ov] (getMethod ov m pl)
      callWith pos f first (backTo pos (starEach (e :: es) X.env)) (backToKw pos (keywordEach [] X.env))) := by rfl) : PE X (.Call (.Attribute o m apos) (e :: es) [] pos) (tMeth C m sp [] E ta t) := by
  obtain ⟨f, fd, hm, F, b⟩ := N.ex
  exact pe_meth ho N.cl hm F hr b .nil hx ha hst hpl ht
theorem pe_md0 {pl : Sem Bool} (ho : PE X o ta) (N : Nn X.prog X.w X.K X.mg X.base CX k C m ps sp) (hr : Room k X.A) (hx : Passes CX X E)
    (ht : eval (.Call (.Attribute o m apos) [] [] pos) X.env = (do
      let ov ← eval o X.env
      standAt apos.atName
      let (f, first) ← holding [ov] (getMethod ov m pl)
      callWith pos f first (backTo pos (starEach [] X.env)) (backToKw pos (keywordEach [] X.env))) := by rfl) : PE X (.Call (.Attribute o m apos) [] [] pos) (tMeth C m sp [] E ta tNil) := by
  obtain ⟨f, fd, hm, F, b⟩ := N.ex
  exact pe_meth0 ho N.cl hm F hr b .nil hx ht
end
def Made (H : Hp) (C : Addr) (R : Addr → Hp → Prop) : Prop := ∀ x dx, H x = none → H dx = none → dx ≠ x → R x (upd (upd H dx (.own x)) x (.ins C dx []))
theorem Made.intro {H : Hp} {C : Addr} {R : Addr → Hp → Prop} (h : ∀ x dx H2, H x = none → Same H H2 → H2 x = some (.ins C dx []) → R x H2) : Made H C R := fun x dx hx hd ne =>
  h x dx _ hx (fun b o e => by rw [upd_ne (ne_of_none e hx), upd_ne (ne_of_none e hd)]; exact e) upd_same
theorem tMake_n {C : Addr} {sp : Sp} {dvs : List V} {E : XK} {t : TA} : tMake C sp dvs E t = fun σ H Q => t σ H fun vs H1 => Made H1 C fun x H2 => sp (.ref x :: (vs ++ dvs)) H2 (fun v H3 => v = .non ∧ Q (.ref x) H3) E := rfl
theorem sFld_n {K : PySem.W.Frag} {ta tv : TE} {f : Str} : sFld K ta tv f = fun D σ H => tv σ H fun y H1 => ta σ H1 fun x H2 => ∃ a C dx fs, x = .ref a ∧ H2 a = some (.ins C dx fs) ∧ Cls K C ∧ NoAttr K C f ∧ fs.length < 1000 ∧
  Upd H2 a (.ins C dx (putF f y fs)) fun H3 => D.nx σ H3 := rfl
theorem ps_fldK {X : Cx} {K : PySem.W.Frag} {o value : Expr} {f : Str} {pos pos' : Pos} {ta tv : TE} (ha : PE X o ta) (hv : PE X value tv) (hs : swapsWith value (some (.Attribute o f pos')) pos.line X.env = pure false) (h : X.K = K := by rfl) : PS X (.Assign [.Attribute o f pos'] value pos) (sFld K ta tv f) := by subst h; exact ps_fld ha hv hs
theorem lk0 {f : Str} {v : V} {r : List (Str × V)} : List.lookup f ((f, v) :: r) = some v := by simp [List.lookup]
theorem lk1 {f g : Str} {v : V} {r : List (Str × V)} {o : Option V} (h : (g == f) = false) (k : List.lookup g r = o) : List.lookup g ((f, v) :: r) = o := by
  rw [List.lookup_cons, h]
  exact k
theorem putF0 {f : Str} {v x : V} {r : List (Str × V)} : putF f v ((f, x) :: r) = (f, v) :: r := by
  unfold putF
  rw [if_pos rfl]
theorem putF1 {f g : Str} {v x : V} {r : List (Str × V)} (h : ¬ g = f) : putF f v ((g, x) :: r) = (g, x) :: putF f v r := by
  show (if g = f then _ else _) = _
  rw [if_neg h]
def rInsert : V → List V → Hp → VK → Prop := fun x vs H Q => ∃ (l : Addr) (xs : List V) (i : Int) (y : V), x = .ref l ∧ vs = [.int i, y] ∧ H l = some (.lst xs) ∧ xs.length < sizeLine ∧ 0 ≤ i ∧ i < 2 ^ 63 ∧ Upd H l (.lst (xs.take i.toNat ++ [y] ++ xs.drop i.toNat)) fun H2 => Q .non H2
theorem mt_insertR {X : Cx} : MtR X "list.insert" rInsert := mt_insert
theorem rRemI_n : rRemI = fun x xs H Q => ∃ (l : Addr) (ns : List Int) (k : Int) (j : Nat), x = V.ref l ∧ xs = [V.int k] ∧ H l = some (.lst (ns.map V.int)) ∧ ns[j]? = some k ∧ (∀ m : Nat, m < j → ns[m]? ≠ some k) ∧ Upd H l (.lst ((ns.eraseIdx j).map V.int)) fun H2 => Q .non H2 := rfl
theorem inV_int (n : Int) : ∀ ns : List Int, inV (.int n) (ns.map V.int) = decide (n ∈ ns)
  | [] => rfl
  | a :: r => by
    have e : inV (.int n) ((a :: r).map V.int) = (eqV (.int a) (.int n) || inV (.int n) (r.map V.int)) := rfl
    rw [e, inV_int n r]
    have e2 : eqV (.int a) (.int n) = decide (a = n) := by
      unfold eqV
      rfl
    rw [e2]
    by_cases h : a = n
    · subst h
      simp
    · simp [h, Ne.symm h]
theorem flat_ints : ∀ ns : List Int, (ns.map V.int).all flatV = true
  | [] => rfl
  | _ :: r => flat_ints r

/-! ### loops by an invariant -/
theorem Loop.list {K : PySem.W.Frag} {a : Addr} {xs : List V} {g : TG} {tb : TS} {D : Ends} {σ : L2.St} {H : Hp} (Pv : Nat → L2.St → Hp → Prop) (h0 : Pv 0 σ H) (hl : ∀ i σ H, i ≤ xs.length → Pv i σ H → SqL K H a xs)
    (hs : ∀ i x σ H, xs[i]? = some x → Pv i σ H → g x σ H fun σ2 H2 => tb { D with nx := Pv (i + 1), ct := Pv (i + 1), bk := D.nx } σ2 H2) (hd : ∀ σ H, Pv xs.length σ H → D.nx σ H) : Loop (Itl K a) g tb D σ H := for_list Pv h0 hl hs hd
theorem Loop.tup {K : PySem.W.Frag} {a : Addr} {xs : List V} {g : TG} {tb : TS} {D : Ends} {σ : L2.St} {H : Hp} (Pv : Nat → L2.St → Hp → Prop) (h0 : Pv 0 σ H) (hl : ∀ i σ H, i ≤ xs.length → Pv i σ H → SqT K H a xs)
    (hs : ∀ i x σ H, xs[i]? = some x → Pv i σ H → g x σ H fun σ2 H2 => tb { D with nx := Pv (i + 1), ct := Pv (i + 1), bk := D.nx } σ2 H2) (hd : ∀ σ H, Pv xs.length σ H → D.nx σ H) : Loop (Itt K a) g tb D σ H := for_tup Pv h0 hl hs hd
theorem Loop.range {lo : Int} {n : Nat} {g : TG} {tb : TS} {D : Ends} {σ : L2.St} {H : Hp} (Pv : Nat → L2.St → Hp → Prop) (h0 : Pv 0 σ H)
    (hs : ∀ i σ H, i < n → Pv i σ H → g (.int (lo + i)) σ H fun σ2 H2 => tb { D with nx := Pv (i + 1), ct := Pv (i + 1), bk := D.nx } σ2 H2) (hd : ∀ σ H, Pv n σ H → D.nx σ H) : Loop (Itr lo n) g tb D σ H := for_range Pv h0 hs hd
theorem Loop.rev {K : PySem.W.Frag} {a : Addr} {xs : List V} {n : Nat} {g : TG} {tb : TS} {D : Ends} {σ : L2.St} {H : Hp} (hn : n = xs.length) (Pv : Nat → L2.St → Hp → Prop) (h0 : Pv 0 σ H) (hl : ∀ i σ H, i ≤ xs.length → Pv i σ H → SqL K H a xs)
    (hs : ∀ i x σ H, xs[xs.length - 1 - i]? = some x → i < xs.length → Pv i σ H → g x σ H fun σ2 H2 => tb { D with nx := Pv (i + 1), ct := Pv (i + 1), bk := D.nx } σ2 H2) (hd : ∀ σ H, Pv xs.length σ H → D.nx σ H) : Loop (Itv K a n) g tb D σ H := by
  subst hn
  refine ⟨fun i m σ H => m = xs.length - i ∧ i ≤ xs.length ∧ Pv i σ H, ⟨xs.length, by simp, Nat.zero_le _, h0⟩, ?_⟩
  rintro i m σ H ⟨rfl, hi, p⟩
  have q := hl i σ H hi p
  by_cases hlt : i < xs.length
  · have hx : xs.length - 1 - i < xs.length := by omega
    refine .inr ⟨⟨hlt, xs, xs[xs.length - 1 - i], q, by simp [hx]⟩, Pv (i + 1), fun σ' H' p' => ⟨xs.length - (i + 1), by omega, rfl, hlt, p'⟩, fun x H' y => ?_⟩
    obtain ⟨e, y⟩ := y
    subst e
    exact hs i x σ _ (y xs q) hlt p
  · have e : i = xs.length := by omega
    subst e
    exact .inl ⟨Nat.le_refl _, hd σ H p⟩
theorem Loop.enum {K : PySem.W.Frag} {a : Addr} {xs : List V} {g : TG} {tb : TS} {D : Ends} {σ : L2.St} {H : Hp} (Pv : Nat → L2.St → Hp → Prop) (h0 : Pv 0 σ H) (hl : ∀ i σ H, i ≤ xs.length → Pv i σ H → SqL K H a xs)
    (hs : ∀ i x σ H T H1, xs[i]? = some x → Pv i σ H → H T = none → Same H H1 → H1 T = some (.tup [.int (i : Nat), x]) → g (.ref T) σ H1 fun σ2 H2 => tb { D with nx := Pv (i + 1), ct := Pv (i + 1), bk := D.nx } σ2 H2) (hd : ∀ σ H, Pv xs.length σ H → D.nx σ H) : Loop (Ite K a) g tb D σ H := by
  refine ⟨fun i m σ H => m = xs.length - i ∧ i ≤ xs.length ∧ Pv i σ H, ⟨xs.length, by simp, Nat.zero_le _, h0⟩, ?_⟩
  rintro i m σ H ⟨rfl, hi, p⟩
  have q := hl i σ H hi p
  by_cases hlt : i < xs.length
  · refine .inr ⟨⟨xs, xs[i], q, by simp [hlt]⟩, Pv (i + 1), fun σ' H' p' => ⟨xs.length - (i + 1), by omega, rfl, hlt, p'⟩, fun v H' y => ?_⟩
    obtain ⟨T, x, rfl, nT, rfl, f⟩ := y
    exact hs i x σ H T _ (f xs q) p nT (same_new nT) upd_same
  · have e : i = xs.length := by omega
    subst e
    exact .inl ⟨⟨xs, q, Nat.le_refl _⟩, hd σ H p⟩
theorem Loop.zip {K : PySem.W.Frag} {a b : Addr} {xs ys : List V} {g : TG} {tb : TS} {D : Ends} {σ : L2.St} {H : Hp} (hn : xs.length = ys.length) (Pv : Nat → L2.St → Hp → Prop) (h0 : Pv 0 σ H) (hl : ∀ i σ H, i ≤ xs.length → Pv i σ H → SqL K H a xs ∧ SqL K H b ys)
    (hs : ∀ i x y σ H T H1, xs[i]? = some x → ys[i]? = some y → Pv i σ H → H T = none → Same H H1 → H1 T = some (.tup [x, y]) → g (.ref T) σ H1 fun σ2 H2 => tb { D with nx := Pv (i + 1), ct := Pv (i + 1), bk := D.nx } σ2 H2) (hd : ∀ σ H, Pv xs.length σ H → D.nx σ H) : Loop (Itz K a b) g tb D σ H := by
  refine ⟨fun i m σ H => m = xs.length - i ∧ i ≤ xs.length ∧ Pv i σ H, ⟨xs.length, by simp, Nat.zero_le _, h0⟩, ?_⟩
  rintro i m σ H ⟨rfl, hi, p⟩
  have q := hl i σ H hi p
  by_cases hlt : i < xs.length
  · refine .inr ⟨⟨xs, ys, xs[i], ys[i]'(by omega), q.1, q.2, by simp [hlt], by simp [show i < ys.length by omega]⟩, Pv (i + 1), fun σ' H' p' => ⟨xs.length - (i + 1), by omega, rfl, hlt, p'⟩, fun v H' y => ?_⟩
    obtain ⟨T, x, y, rfl, nT, rfl, f1, f2⟩ := y
    exact hs i x y σ H T _ (f1 xs q.1) (f2 ys q.2) p nT (same_new nT) upd_same
  · have e : i = xs.length := by omega
    subst e
    exact .inl ⟨⟨xs, ys, q.1, q.2, .inl (Nat.le_refl _)⟩, hd σ H p⟩
theorem Loop.str {z : Str} {g : TG} {tb : TS} {D : Ends} {σ : L2.St} {H : Hp} (Pv : Nat → L2.St → Hp → Prop) (h0 : Pv 0 σ H)
    (hs : ∀ i c σ H, z.cps[i]? = some c → Pv i σ H → g (.str ⟨#[c]⟩) σ H fun σ2 H2 => tb { D with nx := Pv (i + 1), ct := Pv (i + 1), bk := D.nx } σ2 H2) (hd : ∀ σ H, Pv z.cps.size σ H → D.nx σ H) : Loop (Its z) g tb D σ H := by
  refine ⟨fun i m σ H => m = z.cps.size - i ∧ i ≤ z.cps.size ∧ Pv i σ H, ⟨z.cps.size, by simp, Nat.zero_le _, h0⟩, ?_⟩
  rintro i m σ H ⟨rfl, hi, p⟩
  by_cases hlt : i < z.cps.size
  · refine .inr ⟨hlt, Pv (i + 1), fun σ' H' p' => ⟨z.cps.size - (i + 1), by omega, rfl, hlt, p'⟩, fun x H' y => ?_⟩
    obtain ⟨e, c, hc, ex⟩ := y
    subst e ex
    exact hs i c σ _ hc p
  · have e : i = z.cps.size := by omega
    subst e
    exact .inl ⟨Nat.le_refl _, hd σ H p⟩

theorem int_at {ns : List Int} {i : Nat} {x : V} (h : (ns.map V.int)[i]? = some x) : ∃ z, ns[i]? = some z ∧ x = .int z := by
  rw [List.getElem?_map] at h
  cases e : ns[i]? with
  | none =>
    rw [e] at h
    cases h
  | some z =>
    rw [e] at h
    exact ⟨z, rfl, (Option.some.inj h).symm⟩
theorem at_int {ns : List Int} {i : Nat} {z : Int} (h : ns[i]? = some z) : (ns.map V.int)[i]? = some (.int z) := by
  rw [List.getElem?_map, h]
  rfl
theorem take_snoc {α : Type} {l : List α} {i : Nat} {x : α} (h : l[i]? = some x) : l.take (i + 1) = l.take i ++ [x] := by
  rw [List.take_add_one, h]
  rfl
theorem drop_at {α : Type} {l : List α} {i : Nat} {x : α} (h : l[i]? = some x) : l.drop i = x :: l.drop (i + 1) := by
  obtain ⟨hi, e⟩ := List.getElem?_eq_some_iff.mp h
  rw [List.drop_eq_getElem_cons hi, e]
theorem iteN {c A B : Prop} [Decidable c] (hc : ¬ c) (h : B) : if c then A else B := by
  rw [if_neg hc]
  exact h
theorem iteP {c A B : Prop} [Decidable c] (hc : c) (h : A) : if c then A else B := by
  rw [if_pos hc]
  exact h
/-! ### comprehensions -/
/-- what is made so far stands at D; the source stands; an element may change what it likes but D -/
theorem Cmp.list {K : PySem.W.Frag} {a : Addr} {xs : List V} {g : TG} {tt : TT} {te : TE} {vs : List Nat} {σ : L2.St} {H1 : Hp} {Q : VK} (Pv : Addr → Nat → List V → Hp → Prop)
    (h0 : ∀ D H2, H1 D = none → Same H1 H2 → H2 D = some (.lst []) → Pv D 0 [] H2) (hl : ∀ D i acc H, i ≤ xs.length → Pv D i acc H → SqL K H a xs)
    (hs : ∀ D i x acc H (Nx : Hp → Prop), xs[i]? = some x → acc.length ≤ i → Pv D i acc H → (∀ acc' H', acc'.length ≤ i + 1 → Pv D (i + 1) acc' H' → Nx H') → g x (wipe σ vs) H fun σ2 H2 => wipe σ2 vs = wipe σ vs ∧ tt σ2 H2 fun b H3 =>
      if b = true then te σ2 H3 fun y H4 => ∃ acc, H4 D = some (.lst acc) ∧ acc.length < sizeLine ∧ Nx (upd H4 D (.lst (acc ++ [y]))) else Nx H3) (hd : ∀ D acc H, acc.length ≤ xs.length → Pv D xs.length acc H → Q (.ref D) H) : Cmp (Itl K a) g tt te vs σ H1 Q := fun D nD =>
  lc_list (K := K) (a := a) (xs := xs) (fun i H => ∃ acc, acc.length ≤ i ∧ Pv D i acc H) ⟨[], Nat.zero_le _, h0 D _ nD (same_new nD) upd_same⟩ (fun i H hi ⟨acc, _, p⟩ => hl D i acc H hi p)
    (fun i x H hx ⟨acc, ha, p⟩ => hs D i x acc H _ hx ha p fun acc' H' h1 h2 => ⟨acc', h1, h2⟩) (fun H ⟨acc, ha, p⟩ => hd D acc H ha p)
theorem Cmp.tup {K : PySem.W.Frag} {a : Addr} {xs : List V} {g : TG} {tt : TT} {te : TE} {vs : List Nat} {σ : L2.St} {H1 : Hp} {Q : VK} (Pv : Addr → Nat → List V → Hp → Prop)
    (h0 : ∀ D H2, H1 D = none → Same H1 H2 → H2 D = some (.lst []) → Pv D 0 [] H2) (hl : ∀ D i acc H, i ≤ xs.length → Pv D i acc H → SqT K H a xs)
    (hs : ∀ D i x acc H (Nx : Hp → Prop), xs[i]? = some x → acc.length ≤ i → Pv D i acc H → (∀ acc' H', acc'.length ≤ i + 1 → Pv D (i + 1) acc' H' → Nx H') → g x (wipe σ vs) H fun σ2 H2 => wipe σ2 vs = wipe σ vs ∧ tt σ2 H2 fun b H3 =>
      if b = true then te σ2 H3 fun y H4 => ∃ acc, H4 D = some (.lst acc) ∧ acc.length < sizeLine ∧ Nx (upd H4 D (.lst (acc ++ [y]))) else Nx H3) (hd : ∀ D acc H, acc.length ≤ xs.length → Pv D xs.length acc H → Q (.ref D) H) : Cmp (Itt K a) g tt te vs σ H1 Q := fun D nD =>
  lc_tup (K := K) (a := a) (xs := xs) (fun i H => ∃ acc, acc.length ≤ i ∧ Pv D i acc H) ⟨[], Nat.zero_le _, h0 D _ nD (same_new nD) upd_same⟩ (fun i H hi ⟨acc, _, p⟩ => hl D i acc H hi p)
    (fun i x H hx ⟨acc, ha, p⟩ => hs D i x acc H _ hx ha p fun acc' H' h1 h2 => ⟨acc', h1, h2⟩) (fun H ⟨acc, ha, p⟩ => hd D acc H ha p)
theorem Cmp.range {lo : Int} {n : Nat} {g : TG} {tt : TT} {te : TE} {vs : List Nat} {σ : L2.St} {H1 : Hp} {Q : VK} (Pv : Addr → Nat → List V → Hp → Prop)
    (h0 : ∀ D H2, H1 D = none → Same H1 H2 → H2 D = some (.lst []) → Pv D 0 [] H2)
    (hs : ∀ D i acc H (Nx : Hp → Prop), i < n → acc.length ≤ i → Pv D i acc H → (∀ acc' H', acc'.length ≤ i + 1 → Pv D (i + 1) acc' H' → Nx H') → g (.int (lo + i)) (wipe σ vs) H fun σ2 H2 => wipe σ2 vs = wipe σ vs ∧ tt σ2 H2 fun b H3 =>
      if b = true then te σ2 H3 fun y H4 => ∃ acc, H4 D = some (.lst acc) ∧ acc.length < sizeLine ∧ Nx (upd H4 D (.lst (acc ++ [y]))) else Nx H3) (hd : ∀ D acc H, acc.length ≤ n → Pv D n acc H → Q (.ref D) H) : Cmp (Itr lo n) g tt te vs σ H1 Q := fun D nD =>
  lc_range (lo := lo) (n := n) (fun i H => ∃ acc, acc.length ≤ i ∧ Pv D i acc H) ⟨[], Nat.zero_le _, h0 D _ nD (same_new nD) upd_same⟩
    (fun i H hx ⟨acc, ha, p⟩ => hs D i acc H _ hx ha p fun acc' H' h1 h2 => ⟨acc', h1, h2⟩) (fun H ⟨acc, ha, p⟩ => hd D acc H ha p)
theorem push {D : Addr} {i : Nat} {acc : List V} {y : V} {H4 : Hp} {Nx : Hp → Prop} {PV : List V → Hp → Prop} (hN : ∀ acc' H', acc'.length ≤ i + 1 → PV acc' H' → Nx H') (ha : acc.length ≤ i) (h : H4 D = some (.lst acc)) (hi : i < 1000000)
    (hp : ∀ H5, Off D H4 H5 → H5 D = some (.lst (acc ++ [y])) → PV (acc ++ [y]) H5) : ∃ acc, H4 D = some (.lst acc) ∧ acc.length < sizeLine ∧ Nx (upd H4 D (.lst (acc ++ [y]))) :=
  ⟨acc, h, Nat.lt_of_lt_of_le (Nat.lt_of_le_of_lt ha hi) (by decide), hN _ _ (by rw [List.length_append]; exact Nat.succ_le_succ ha) (hp _ Off.upd upd_same)⟩
/-- elements that change nothing, over a list; with a test -/
theorem Cmp.pureF {K : PySem.W.Frag} {a : Addr} {xs : List V} {j : Nat} {tt : TT} {te : TE} {vs : List Nat} {σ : L2.St} {H1 : Hp} {Q : VK} (p : V → Bool) (f : V → V) (hS : SqL K H1 a xs) (hz : xs.length ≤ 100000) (hw : ∀ x, wipe ((wipe σ vs).set j (some x)) vs = wipe σ vs)
    (ht : ∀ x H2 (R : Bool → Hp → Prop), x ∈ xs → Same H1 H2 → (∀ H3, Same H2 H3 → R (p x) H3) → tt ((wipe σ vs).set j (some x)) H2 R)
    (he : ∀ x H2 (R : VK), x ∈ xs → p x = true → Same H1 H2 → (∀ H3, Same H2 H3 → R (f x) H3) → te ((wipe σ vs).set j (some x)) H2 R)
    (hd : ∀ l H2, H1 l = none → Same H1 H2 → H2 l = some (.lst ((xs.filter p).map f)) → Q (.ref l) H2) : Cmp (Itl K a) (gName j) tt te vs σ H1 Q := by
  refine Cmp.list (xs := xs) (fun D i acc H => H1 D = none ∧ Same H1 H ∧ H D = some (.lst acc) ∧ acc = ((xs.take i).filter p).map f) (fun D H2 nD s2 h2 => ⟨nD, s2, h2, by simp⟩) (fun D i acc H _ ⟨_, s2, _⟩ => s2.seq hS) ?_ ?_
  · rintro D i x acc H Nx hx ha ⟨nD, s2, h2, ea⟩ hN
    have hi : i < xs.length := (List.getElem?_eq_some_iff.mp hx).1
    have hm := List.mem_of_getElem? hx
    refine ⟨hw x, ht x H _ hm s2 fun H3 s3 => ?_⟩
    cases hp : p x with
    | true =>
      rw [if_pos rfl]
      refine he x H3 _ hm hp (s2.trans s3) fun H4 s4 => push hN ha (s4 _ _ (s3 _ _ h2)) (by omega) fun H5 o5 h5 => ⟨nD, Same.off ((s2.trans s3).trans s4) nD o5, h5, ?_⟩
      rw [ea, take_snoc hx, List.filter_append, List.map_append]
      simp [hp]
    | false =>
      rw [if_neg Bool.false_ne_true]
      refine hN acc H3 (Nat.le_succ_of_le ha) ⟨nD, s2.trans s3, s3 _ _ h2, ?_⟩
      rw [ea, take_snoc hx, List.filter_append, List.map_append]
      simp [hp]
  · rintro D acc H _ ⟨nD, s2, h2, ea⟩
    rw [List.take_length] at ea
    exact hd D H nD s2 (ea ▸ h2)
theorem Cmp.pureL {K : PySem.W.Frag} {a : Addr} {xs : List V} {j : Nat} {te : TE} {vs : List Nat} {σ : L2.St} {H1 : Hp} {Q : VK} (f : V → V) (hS : SqL K H1 a xs) (hz : xs.length ≤ 100000) (hw : ∀ x, wipe ((wipe σ vs).set j (some x)) vs = wipe σ vs)
    (he : ∀ x H2 (R : VK), x ∈ xs → Same H1 H2 → (∀ H3, Same H2 H3 → R (f x) H3) → te ((wipe σ vs).set j (some x)) H2 R)
    (hd : ∀ l H2, H1 l = none → Same H1 H2 → H2 l = some (.lst (xs.map f)) → Q (.ref l) H2) : Cmp (Itl K a) (gName j) tYes te vs σ H1 Q :=
  Cmp.pureF (fun _ => true) f hS hz hw (fun x H2 R _ _ h => h H2 (Same.refl H2)) (fun x H2 R hm _ => he x H2 R hm) fun l H2 n s h => hd l H2 n s (by rw [List.filter_eq_self.mpr (fun _ _ => rfl)] at h; exact h)
theorem Cmp.pureRF {lo : Int} {n : Nat} {j : Nat} {tt : TT} {te : TE} {vs : List Nat} {σ : L2.St} {H1 : Hp} {Q : VK} (p : Nat → Bool) (f : Nat → V) (hz : n ≤ 100000) (hw : ∀ x, wipe ((wipe σ vs).set j (some x)) vs = wipe σ vs)
    (ht : ∀ i H2 (R : Bool → Hp → Prop), i < n → Same H1 H2 → (∀ H3, Same H2 H3 → R (p i) H3) → tt ((wipe σ vs).set j (some (.int (lo + (i : Int))))) H2 R)
    (he : ∀ i H2 (R : VK), i < n → p i = true → Same H1 H2 → (∀ H3, Same H2 H3 → R (f i) H3) → te ((wipe σ vs).set j (some (.int (lo + (i : Int))))) H2 R)
    (hd : ∀ l H2, H1 l = none → Same H1 H2 → H2 l = some (.lst (((List.range n).filter p).map f)) → Q (.ref l) H2) : Cmp (Itr lo n) (gName j) tt te vs σ H1 Q := by
  refine Cmp.range (fun D i acc H => H1 D = none ∧ Same H1 H ∧ H D = some (.lst acc) ∧ acc = ((List.range i).filter p).map f) (fun D H2 nD s2 h2 => ⟨nD, s2, h2, by simp⟩) ?_ ?_
  · rintro D i acc H Nx hi ha ⟨nD, s2, h2, ea⟩ hN
    refine ⟨hw _, ht i H _ hi s2 fun H3 s3 => ?_⟩
    cases hp : p i with
    | true =>
      rw [if_pos rfl]
      refine he i H3 _ hi hp (s2.trans s3) fun H4 s4 => push hN ha (s4 _ _ (s3 _ _ h2)) (by omega) fun H5 o5 h5 => ⟨nD, Same.off ((s2.trans s3).trans s4) nD o5, h5, ?_⟩
      rw [ea, List.range_succ, List.filter_append, List.map_append]
      simp [hp]
    | false =>
      rw [if_neg Bool.false_ne_true]
      refine hN acc H3 (Nat.le_succ_of_le ha) ⟨nD, s2.trans s3, s3 _ _ h2, ?_⟩
      rw [ea, List.range_succ, List.filter_append, List.map_append]
      simp [hp]
  · rintro D acc H _ ⟨nD, s2, h2, ea⟩
    exact hd D H nD s2 (ea ▸ h2)
theorem Cmp.pureR {lo : Int} {n : Nat} {j : Nat} {te : TE} {vs : List Nat} {σ : L2.St} {H1 : Hp} {Q : VK} (f : Nat → V) (hz : n ≤ 100000) (hw : ∀ x, wipe ((wipe σ vs).set j (some x)) vs = wipe σ vs)
    (he : ∀ i H2 (R : VK), i < n → Same H1 H2 → (∀ H3, Same H2 H3 → R (f i) H3) → te ((wipe σ vs).set j (some (.int (lo + (i : Int))))) H2 R)
    (hd : ∀ l H2, H1 l = none → Same H1 H2 → H2 l = some (.lst ((List.range n).map f)) → Q (.ref l) H2) : Cmp (Itr lo n) (gName j) tYes te vs σ H1 Q :=
  Cmp.pureRF (fun _ => true) f hz hw (fun x H2 R _ _ h => h H2 (Same.refl H2)) (fun x H2 R hm _ => he x H2 R hm) fun l H2 n s h => hd l H2 n s (by rw [List.filter_eq_self.mpr (fun _ _ => rfl)] at h; exact h)

theorem sq_true {K : PySem.W.Frag} {H : Hp} {l : Addr} {α : Type} {ys : List α} (h : H l = some (.lst (ys.map fun _ => V.bl true))) : SqL K H l ((ys.map fun _ => true).map V.bl) := by
  rw [List.map_map]
  exact seq_of h
theorem all_true {α : Type} : ∀ ys : List α, (ys.map fun _ => true).all id = true
  | [] => rfl
  | _ :: r => all_true r
theorem cut_to (xs : List V) (j : Nat) : cutV xs none (some (j : Int)) = xs.take j := by
  unfold cutV
  rw [HT.sIx_none, HT.sIx_nat, List.drop_zero, Nat.sub_zero]
  by_cases h : j ≤ xs.length
  · rw [Nat.min_eq_left h]
  · rw [Nat.min_eq_right (by omega), List.take_of_length_le (Nat.le_refl _), List.take_of_length_le (by omega)]
theorem cut_from (xs : List V) (j : Nat) : cutV xs (some (j : Int)) none = xs.drop j := by
  unfold cutV
  rw [HT.sIx_none, HT.sIx_nat]
  by_cases h : j ≤ xs.length
  · rw [Nat.min_eq_left h, List.take_of_length_le (by rw [List.length_drop]; omega)]
  · rw [Nat.min_eq_right (by omega), List.drop_eq_nil_of_le (Nat.le_refl _), List.drop_eq_nil_of_le (by omega), List.take_nil]

/-! ### data -/
def pd : V → PyData
  | .bl b => .bool b
  | .int i => .int i
  | .str x => .str x
  | _ => .none
def isPd : V → Bool
  | .bl _ => true
  | .int _ => true
  | .str x => PyData.strOk x
  | .non => true
  | _ => false
theorem dp_pd {K : PySem.W.Frag} {H : Hp} : ∀ {x : V}, isPd x = true → Dp K H x (pd x)
  | .non, _ => .non
  | .bl b, _ => .bl b
  | .int i, _ => .int i
  | .str x, _ => .str x
theorem dpAll_pd {K : PySem.W.Frag} {H : Hp} : ∀ {xs : List V}, xs.all isPd = true → DpAll K H xs (xs.map pd)
  | [], _ => .nil
  | x :: xs, h => by
    rw [List.all_cons, Bool.and_eq_true] at h
    exact .cons (dp_pd h.1) (dpAll_pd h.2)
theorem ints_pd : ∀ ns : List Int, (ns.map V.int).all isPd = true
  | [] => rfl
  | _ :: r => ints_pd r
theorem dp_lst {K : PySem.W.Frag} {H : Hp} {a : Addr} {xs : List V} (h : SqL K H a xs) (hx : xs.all isPd = true) : Dp K H (.ref a) (.list (xs.map pd)) := .lst h (dpAll_pd hx)
theorem dp_tup {K : PySem.W.Frag} {H : Hp} {a : Addr} {xs : List V} (h : SqT K H a xs) (hx : xs.all isPd = true) : Dp K H (.ref a) (.tuple (xs.map pd)) := .tup h (dpAll_pd hx)
theorem pd_lay : ∀ {x : V}, isPd x = true → (pd x).canLay0 = true
  | .non, _ => rfl
  | .bl _, _ => rfl
  | .int _, _ => rfl
  | .str x, h => h
theorem pd_layAll : ∀ {xs : List V}, xs.all isPd = true → PyData.canLayAll0 (xs.map pd) = true
  | [], _ => rfl
  | x :: xs, h => by
    rw [List.all_cons, Bool.and_eq_true] at h
    show ((pd x).canLay0 && PyData.canLayAll0 (xs.map pd)) = true
    rw [pd_lay h.1, pd_layAll h.2]
    rfl
theorem pd_depth : ∀ x : V, (pd x).depth = 0
  | .non => rfl
  | .bl _ => rfl
  | .int _ => rfl
  | .str _ => rfl
  | .byt _ => rfl
  | .flt _ => rfl
  | .ref _ => rfl
  | .ty _ => rfl

theorem pd_depthAll : ∀ xs : List V, PyData.depthAll (xs.map pd) = 0
  | [] => rfl
  | x :: xs => by
    show max (pd x).depth (PyData.depthAll (xs.map pd)) = 0
    rw [pd_depth, pd_depthAll]
    rfl
theorem shaped_lst {xs : List V} (h : xs.all isPd = true) : SeqAt.shaped (.list (xs.map pd)) = true := by
  have e : (PyData.list (xs.map pd)).depth = 1 := by
    show PyData.depthAll (xs.map pd) + 1 = 1
    rw [pd_depthAll]
  show ((PyData.canLayAll0 (xs.map pd)) && decide ((PyData.list (xs.map pd)).depth ≤ 64)) = true
  rw [pd_layAll h, e]
  rfl
theorem shaped_tup {xs : List V} (h : xs.all isPd = true) : SeqAt.shaped (.tuple (xs.map pd)) = true := by
  have e : (PyData.tuple (xs.map pd)).depth = 1 := by
    show PyData.depthAll (xs.map pd) + 1 = 1
    rw [pd_depthAll]
  show ((PyData.canLayAll0 (xs.map pd)) && decide ((PyData.tuple (xs.map pd)).depth ≤ 64)) = true
  rw [pd_layAll h, e]
  rfl
theorem eqvAll_ints : ∀ ns ms : List Int, PyData.eqvAll ((ns.map V.int).map pd) ((ms.map V.int).map pd) = decide (ns = ms)
  | [], [] => rfl
  | [], _ :: _ => rfl
  | _ :: _, [] => rfl
  | a :: r, b :: t => by
    show ((a == b) && PyData.eqvAll ((r.map V.int).map pd) ((t.map V.int).map pd)) = decide (a :: r = b :: t)
    rw [eqvAll_ints r t]
    by_cases h : a = b
    · subst h
      simp
    · simp [h]
theorem eqv_ints (ns ms : List Int) : PyData.eqv (.list ((ns.map V.int).map pd)) (.list ((ms.map V.int).map pd)) = decide (ns = ms) := eqvAll_ints ns ms
/-- == of two lists of ints -/
theorem eq_ints {K : PySem.W.Frag} {H : Hp} {a b : Addr} {ns ms : List Int} {Q : VK} (ha : SqL K H a (ns.map V.int)) (hb : SqL K H b (ms.map V.int)) (q : Q (.bl (decide (ns = ms))) H) : rEqD K (.ref a) (.ref b) H Q :=
  ⟨_, _, dp_lst ha (ints_pd ns), dp_lst hb (ints_pd ms), shaped_lst (ints_pd ns), shaped_lst (ints_pd ms), by rw [eqv_ints]; exact q⟩
theorem ne_ints {K : PySem.W.Frag} {H : Hp} {a b : Addr} {ns ms : List Int} {Q : VK} (ha : SqL K H a (ns.map V.int)) (hb : SqL K H b (ms.map V.int)) (q : Q (.bl (!decide (ns = ms))) H) : rNeD K (.ref a) (.ref b) H Q :=
  ⟨_, _, dp_lst ha (ints_pd ns), dp_lst hb (ints_pd ms), shaped_lst (ints_pd ns), shaped_lst (ints_pd ms), by rw [eqv_ints]; exact q⟩
/-- == of equal data -/
theorem eq_tups {K : PySem.W.Frag} {H : Hp} {a b : Addr} {xs : List V} {Q : VK} (ha : SqT K H a xs) (hb : SqT K H b xs) (hx : xs.all isPd = true) (q : Q (.bl true) H) : rEqD K (.ref a) (.ref b) H Q :=
  ⟨_, _, dp_tup ha hx, dp_tup hb hx, shaped_tup hx, shaped_tup hx, by rw [SeqAt.eqv_refl (.tuple (xs.map pd)) (show PyData.canLayAll0 (xs.map pd) = true from pd_layAll hx)]; exact q⟩

/-- the type of a list, of a tuple, of an int that is told -/
theorem tyv_list {K : PySem.W.Frag} {H : Hp} {a : Addr} {xs : List V} (h : SqL K H a xs) : tyV K "list" (.ref a) H := .inl ⟨rfl, _, h⟩
theorem ty_int {K : PySem.W.Frag} {H : Hp} {i : Int} : TyX K H (.int i) (.type "int") := .base (.int i)
theorem ty_lst {K : PySem.W.Frag} {H : Hp} {a : Addr} {xs : List V} (h : H a = some (.lst xs)) : TyX K H (.ref a) (.type "list") := .base (.lst h)
theorem ty_tup {K : PySem.W.Frag} {H : Hp} {a : Addr} {xs : List V} (h : H a = some (.tup xs)) : TyX K H (.ref a) (.type "tuple") := .base (.tup h)

theorem scal_ii {i j : Int} : scal (.int i) (.int j) = true := rfl
theorem scal_bb {i j : Bool} : scal (.bl i) (.bl j) = true := rfl
theorem scal_ss {i j : Str} : scal (.str i) (.str j) = true := rfl
theorem scal_nn : scal .non .non = true := rfl
theorem scal_ni {j : Int} : scal .non (.int j) = true := rfl
theorem scal_in {j : Int} : scal (.int j) .non = true := rfl
theorem scal_ns {j : Str} : scal .non (.str j) = true := rfl
theorem scal_sn {j : Str} : scal (.str j) .non = true := rfl
theorem scal_is {i : Int} {j : Str} : scal (.int i) (.str j) = true := rfl
theorem scal_si {i : Int} {j : Str} : scal (.str j) (.int i) = true := rfl

/-! == of lists of tuples -/
def pdT (d : List V) : PyData := .tuple (d.map pd)
theorem dp_tups {K : PySem.W.Frag} {H : Hp} : ∀ {xs : List V} {ds : List (List V)}, Tups K H xs ds → (∀ d ∈ ds, d.all isPd = true) → DpAll K H xs (ds.map pdT)
  | _, _, .nil, _ => .nil
  | _, _, .cons (b := d) ⟨a, e, h⟩ t, hd => by
    subst e
    exact .cons (dp_tup h (hd d List.mem_cons_self)) (dp_tups t fun d h => hd d (List.mem_cons_of_mem _ h))
theorem lay_tups : ∀ {ds : List (List V)}, (∀ d ∈ ds, d.all isPd = true) → PyData.canLayAll0 (ds.map pdT) = true
  | [], _ => rfl
  | d :: r, h => by
    show (PyData.canLayAll0 (d.map pd) && PyData.canLayAll0 (r.map pdT)) = true
    rw [pd_layAll (h d List.mem_cons_self), lay_tups fun d hd => h d (List.mem_cons_of_mem _ hd)]
    rfl
theorem depth_tups : ∀ ds : List (List V), PyData.depthAll (ds.map pdT) ≤ 1
  | [] => by show 0 ≤ 1; decide
  | d :: r => by
    show max (PyData.depthAll (d.map pd) + 1) (PyData.depthAll (r.map pdT)) ≤ 1
    rw [pd_depthAll]
    have := depth_tups r
    omega
theorem shaped_tups {ds : List (List V)} (h : ∀ d ∈ ds, d.all isPd = true) : SeqAt.shaped (.list (ds.map pdT)) = true := by
  have e : (PyData.list (ds.map pdT)).depth ≤ 64 := by
    show PyData.depthAll (ds.map pdT) + 1 ≤ 64
    have := depth_tups ds
    omega
  show ((PyData.canLayAll0 (ds.map pdT)) && decide ((PyData.list (ds.map pdT)).depth ≤ 64)) = true
  rw [lay_tups h, decide_eq_true e]
  rfl
theorem eqv_tups {ds : List (List V)} (h : ∀ d ∈ ds, d.all isPd = true) : PyData.eqv (.list (ds.map pdT)) (.list (ds.map pdT)) = true := SeqAt.eqv_refl (.list (ds.map pdT)) (show PyData.canLayAll0 (ds.map pdT) = true from lay_tups h)
theorem eq_tupsL {K : PySem.W.Frag} {H : Hp} {a b : Addr} {xs ys : List V} {ds : List (List V)} {Q : VK} (ha : SqL K H a xs) (hb : SqL K H b ys) (t : Tups K H xs ds) (u : Tups K H ys ds) (hd : ∀ d ∈ ds, d.all isPd = true) (q : Q (.bl true) H) : rEqD K (.ref a) (.ref b) H Q :=
  ⟨_, _, .lst ha (dp_tups t hd), .lst hb (dp_tups u hd), shaped_tups hd, shaped_tups hd, by rw [eqv_tups hd]; exact q⟩
theorem ne_tupsL {K : PySem.W.Frag} {H : Hp} {a b : Addr} {xs ys : List V} {ds : List (List V)} {Q : VK} (ha : SqL K H a xs) (hb : SqL K H b ys) (t : Tups K H xs ds) (u : Tups K H ys ds) (hd : ∀ d ∈ ds, d.all isPd = true) (q : Q (.bl false) H) : rNeD K (.ref a) (.ref b) H Q :=
  ⟨_, _, .lst ha (dp_tups t hd), .lst hb (dp_tups u hd), shaped_tups hd, shaped_tups hd, by rw [eqv_tups hd]; exact q⟩

/-! ### list + list, whoever holds them -/
def rCatR (K : PySem.W.Frag) : R2 := fun x y H Q => ∃ l b xs zs, x = .ref l ∧ y = .ref b ∧ SqL K H l xs ∧ SqL K H b zs ∧ xs.length + zs.length ≤ sizeLine ∧ New H (.lst (xs ++ zs)) fun p H2 => Q (.ref p) H2
theorem op_catS {X : Cx} {K : PySem.W.Frag} (h : X.K = K := by rfl) : OpR X (binaryOp .Add) (rCatR K) := by
  subst h
  intro pins s σ H x y v u Q I rx ry h
  obtain ⟨l, b, xs, zs, rfl, rfl, hH, hB, hz, q⟩ := h
  cases rx
  cases ry
  obtain ⟨its, r, ⟨⟨cls, dd, dt, sl⟩, n, e, hc, hd0, hd⟩, hz1⟩ := I.list hH
  obtain ⟨its2, r2, ⟨⟨cls2, dd2, dt2, sl2⟩, n2, e2, hc2, hd02, hd2⟩, hz2⟩ := I.list hB
  simp only at hc hd hc2 hd2
  subst hc hd hc2 hd2
  have hl := r.length
  have hl2 := r2.length
  have ea : its.toArray ++ its2.toArray = (its ++ its2).toArray := by simp
  refine concat_meets ⟨_, e, rfl⟩ ⟨_, e2, rfl⟩ noFill_list_add seq_list_add PySem.F.slot_list_add PySem.F.entry_list_add (PySem.F.args_list_add_2 _ _) (list_addW l b its.toArray its2.toArray n n2 dd dd2 sl sl2 (by rw [List.size_toArray, List.size_toArray]; omega)) ⟨e, e2, ?_⟩
  rw [ea]
  exact ⟨.ref _, _, I.lnew (t' := s.toks) (r.append r2) (by rw [List.length_append]; omega), rfl, q _ I.fresh⟩
end Rb

set_option Elab.async false
set_option linter.all false
set_option maxRecDepth 100000
set_option maxHeartbeats 4000000
namespace K04
open PySem PySem.Spec PyProof.Rows L2 Rb
def topS (i : Nat) : Stmt := PySem.Challenge.pw_roomslaid_k04_places_and_shares.main.body.getD i (.Pass ⟨0, 0, 0, 0⟩)
abbrev s_NoPlace_init : Stmt := inClass (topS 2) 0
abbrev s_is_whole : Stmt := topS 4
abbrev s_is_place : Stmt := topS 9
abbrev s_need_place : Stmt := topS 10
abbrev s_last_cell : Stmt := topS 11
abbrev s_cells_in : Stmt := topS 12
abbrev s_shares : Stmt := topS 13
abbrev s_law_cell : Stmt := topS 15
abbrev s_law_begun : Stmt := topS 16
abbrev s_law_draw : Stmt := topS 17
abbrev s_law_whole : Stmt := topS 18
abbrev s_law_place : Stmt := topS 19
abbrev s_law_bits : Stmt := topS 20
abbrev s_law_moved : Stmt := topS 21
abbrev s_law_cells : Stmt := topS 22
abbrev s_law_told : Stmt := topS 23
abbrev s_law_shares : Stmt := topS 24
abbrev s_law_other : Stmt := topS 25
abbrev s_law : Stmt := topS 26
theorem sc_NoPlace_init : FnScope ["self", "found"] ["self", "found"] (defScope s_NoPlace_init) := ⟨rfl, rfl, rfl, by decide +kernel, rfl, by decide +kernel, by decide +kernel⟩
theorem sc_is_whole : FnScope ["thing"] ["thing"] (defScope s_is_whole) := ⟨rfl, rfl, rfl, by decide +kernel, rfl, by decide +kernel, by decide +kernel⟩
theorem sc_is_place : FnScope ["thing", "cell", "shift", "bits"] ["thing"] (defScope s_is_place) := ⟨rfl, rfl, rfl, by decide +kernel, rfl, by decide +kernel, by decide +kernel⟩
theorem sc_need_place : FnScope ["thing"] ["thing"] (defScope s_need_place) := ⟨rfl, rfl, rfl, by decide +kernel, rfl, by decide +kernel, by decide +kernel⟩
theorem sc_last_cell : FnScope ["place"] ["place"] (defScope s_last_cell) := ⟨rfl, rfl, rfl, by decide +kernel, rfl, by decide +kernel, by decide +kernel⟩
theorem sc_cells_in : FnScope ["place", "k"] ["place"] (defScope s_cells_in) := ⟨rfl, rfl, rfl, by decide +kernel, rfl, by decide +kernel, by decide +kernel⟩
theorem sc_shares : FnScope ["one", "other", "first", "second"] ["one", "other"] (defScope s_shares) := ⟨rfl, rfl, rfl, by decide +kernel, rfl, by decide +kernel, by decide +kernel⟩
theorem sc_law_cell : FnScope ["_law_script", "_law_k", "_law_number"] ["_law_script", "_law_k"] (defScope s_law_cell) := ⟨rfl, rfl, rfl, by decide +kernel, rfl, by decide +kernel, by decide +kernel⟩
theorem sc_law_begun : FnScope ["_law_cell_here", "_law_rest"] ["_law_cell_here"] (defScope s_law_begun) := ⟨rfl, rfl, rfl, by decide +kernel, rfl, by decide +kernel, by decide +kernel⟩
theorem sc_law_draw : FnScope ["_law_state", "_law_many", "_law_found", "_law_number"] ["_law_state", "_law_many"] (defScope s_law_draw) := ⟨rfl, rfl, rfl, by decide +kernel, rfl, by decide +kernel, by decide +kernel⟩
theorem sc_law_whole : FnScope ["_law_found"] ["_law_found"] (defScope s_law_whole) := ⟨rfl, rfl, rfl, by decide +kernel, rfl, by decide +kernel, by decide +kernel⟩
theorem sc_law_place : FnScope ["_law_state", "_law_wide", "_law_cell_here", "_law_most", "_law_many"] ["_law_state", "_law_wide"] (defScope s_law_place) := ⟨rfl, rfl, rfl, by decide +kernel, rfl, by decide +kernel, by decide +kernel⟩
theorem sc_law_bits : FnScope ["_law_place_here", "_law_k"] ["_law_place_here"] (defScope s_law_bits) := ⟨rfl, rfl, rfl, by decide +kernel, rfl, by decide +kernel, by decide +kernel⟩
theorem sc_law_moved : FnScope ["_law_place_here", "_law_by"] ["_law_place_here", "_law_by"] (defScope s_law_moved) := ⟨rfl, rfl, rfl, by decide +kernel, rfl, by decide +kernel, by decide +kernel⟩
theorem sc_law_cells : FnScope ["_law_place_here", "_law_found", "_law_bit"] ["_law_place_here"] (defScope s_law_cells) := ⟨rfl, rfl, rfl, by decide +kernel, rfl, by decide +kernel, by decide +kernel⟩
theorem sc_law_told : FnScope ["_law_place_here", "_law_found", "_law_cell_here"] ["_law_place_here"] (defScope s_law_told) := ⟨rfl, rfl, rfl, by decide +kernel, rfl, by decide +kernel, by decide +kernel⟩
theorem sc_law_shares : FnScope ["_law_one", "_law_other_here", "_law_first", "_law_due", "_law_bit", "_law_found"] ["_law_one", "_law_other_here"] (defScope s_law_shares) := ⟨rfl, rfl, rfl, by decide +kernel, rfl, by decide +kernel, by decide +kernel⟩
theorem sc_law_other : FnScope ["_law_state", "_law_one", "_law_wide", "_law_end", "_law_way"] ["_law_state", "_law_one", "_law_wide"] (defScope s_law_other) := ⟨rfl, rfl, rfl, by decide +kernel, rfl, by decide +kernel, by decide +kernel⟩
theorem sc_law : FnScope ["_law_script", "_law_k", "_law_state", "_law_wide", "_law_by", "_law_one", "_law_other_here"] ["_law_script"] (defScope s_law) := ⟨rfl, rfl, rfl, by decide +kernel, rfl, by decide +kernel, by decide +kernel⟩
local macro_rules | `(tactic| walk_at "rd") => `(tactic| simp only [L2.start, cxOf, tSeq, tAsg, tIfS, tTest, tB, tOp, tUn, tVar, tC, tCB, tCons, tNil, tRet, tRetN, tNext, tDrop, tBM, tBM0, tLst_n, tTup_n, tAnd, tOr, tNot, tAndV, tOrV, tNotV, tIf, tChain, tCall, gName, gTup, gCons, gNil, gUnl, gSub, rI, rI0, rU, rIxL, rIxT, rSlL_n, tSl, tPart, tNoPart, rCatR, rAppend_n, rExtend_n, rPop_n, rClear_n, rSetL_n, rInsert, rRemI_n, tMake_n, sFld_n, tFld, tMeth, rIn, tFor_n, tLc_n, iRngL1, iRngL2, iList, iTup, iRev, rDivmod, rListOf, rTupOf, rLenSeq, rMin2, rMax2, rAll, rAny, rIsi, tNever, tYes, wipe, tAug, ipI, rEq, rNe, tIsN, tNotN, scal_ii, scal_bb, scal_ss, scal_nn, scal_ni, scal_in, scal_ns, scal_sn, scal_is, scal_si,
  List.map_cons, List.map_nil, List.length_cons, List.length_nil, List.replicate, List.nil_append, List.cons_append, List.append_nil, List.getElem?_cons_zero, List.getElem?_cons_succ, List.set_cons_zero, List.set_cons_succ, List.set_nil, Nat.reduceAdd, Nat.reduceSub,
  Option.some.injEq, V.int.injEq, V.ref.injEq, V.bl.injEq, V.str.injEq, V.ty.injEq, List.cons.injEq, and_assoc, and_true, true_and, exists_eq_left, exists_eq_left', exists_and_left, exists_and_right, exists_eq, exists_eq', exists_eq_right, exists_eq_right', if_true, if_false, Bool.false_eq_true, Bool.not_true, Bool.not_false, if_pos, Int.toNat_natCast, decide_eq_true_eq, Bool.not_eq_true', decide_eq_false_iff_not, reduceCtorEq, false_and, and_false, exists_false, exists_const])
local macro_rules | `(tactic| walk_at "ex") => `(tactic| repeat' (first | assumption | (with_reducible refine Exists.intro _ ?_) | (with_reducible refine And.intro ?_ ?_) | rfl))

/-! ### the law's draws -/
def DSt (H : Hp) (a : Addr) : Prop := ∃ r n c : Int, H a = some (.lst [.int r, .int n, .int c])
def spCell (K : PySem.W.Frag) : Sp := fun vs H Q _ => ∃ (a : Addr) (ns : List Int) (k : Int), vs = [.ref a, .int k] ∧ SqL K H a (ns.map V.int) ∧ 0 ≤ k ∧ k ≤ 1000 ∧ ns.length ≤ 63 ∧ ∀ z, Q (.int z) H
def spBegun : Sp := fun vs H Q _ => ∃ (z : Int), vs = [.int z] ∧ ∀ p H1, H p = none → Same H H1 → DSt H1 p → Q (.ref p) H1
def spDraw : Sp := fun vs H Q _ => ∃ (a : Addr) (m : Int), vs = [.ref a, .int m] ∧ DSt H a ∧ 0 < m ∧ m < 2 ^ 200 ∧ ∀ v H1, 0 ≤ v → v < m → Off a H H1 → DSt H1 a → Q (.int v) H1
section
variable {P : Program} {w : World} {K : PySem.W.Frag} {mg : Str → Option Value} {base : Heap}
theorem ok_cell {f : Addr} {fd : FuncData} (F : Fun K "_law_cell" "_law_cell" s_law_cell f fd) (z_len : mg "len" = none) : FnOk P w K mg base CX0 1 f fd ["_law_script", "_law_k"] (spCell K) := by
  refine F.ok sc_law_cell (fun vs H Q E h => ?_) (fun cdv A outer s H vs Q E hr h => ?_)
  · obtain ⟨a, ns, k, rfl, _⟩ := h
    rfl
  · obtain ⟨a, ns, k, rfl, hS, hk, hk2, hl, q⟩ := h
    refine ⟨_, (pss_cons (ps_if (pt_cmpR op_lt (pv 1) (pe_callB (call_lenR (K := K)) (by rfl) z_len (by decide +kernel) (pa_cons (pv 0) pa_nil)) (nomark _)) (pss_one (ps_ret (pe_ix (ix_listK (K := K)) (pv 0) (pv 1) (fun _ _ => rfl)))) pss_nil)
      (pss_cons (ps_set (i := 2) sc_law_cell.nd rfl (by first | exact Or.inl rfl | exact Or.inr rfl) (pe_op op_add (pe_op op_mul (pv 1) pe_int) pe_int))
      (pss_cons (ps_if (pt_cmpR op_gt (pe_callB (call_lenR (K := K)) (by rfl) z_len (by decide +kernel) (pa_cons (pv 0) pa_nil)) pe_int (nomark _)) (pss_one (ps_set (i := 2) sc_law_cell.nd rfl (by first | exact Or.inl rfl | exact Or.inr rfl) (pe_op op_modN (pe_op op_add (pe_op op_mul (pe_ix (ix_listK (K := K)) (pv 0) (pe_op op_modN (pe_op op_mul (pv 1) pe_int) (pe_callB (call_lenR (K := K)) (by rfl) z_len (by decide +kernel) (pa_cons (pv 0) pa_nil))) (fun _ _ => rfl)) pe_int) (pe_op op_mul (pv 1) pe_int)) pe_int))) pss_nil)
      (pss_one (ps_ret (pe_op op_modN (pe_op op_mulX (pv 2) (pv 2)) pe_int)))))), ?_⟩
    walk_at "rd"
    have atk : ∀ j : Int, 0 ≤ j → j < (ns.map V.int).length → ∃ z, atI (ns.map V.int) j = some (V.int z) := fun j h0 h1 => by
      have hj : j.toNat < ns.length := by rw [List.length_map] at h1; omega
      refine ⟨ns[j.toNat], at_of (j := j.toNat) (by omega) ?_⟩
      rw [List.getElem?_map, List.getElem?_eq_getElem hj]
      rfl
    refine ⟨_, .inl hS, ite2 (fun c => ?_) (fun c => ?_)⟩
    · obtain ⟨z, hz⟩ := atk k hk c
      exact ⟨_, hS, _, hz, q z⟩
    · refine ⟨.inr ⟨by decide, by decide⟩, _, .inl hS, ite2 (fun c2 => ?_) (fun c2 => ?_)⟩
      · have m1 := Int.fmod_nonneg_of_pos (k * 7) c2
        have m2 := Int.fmod_lt_of_pos (k * 7) c2
        obtain ⟨z, hz⟩ := atk _ m1 m2
        refine ⟨.inr ⟨by decide, by decide⟩, _, .inl hS, by omega, _, hS, _, hz, _, rfl, .inr ⟨by decide, by decide⟩, .inr ⟨by decide, by decide⟩, by decide, ?_, by decide, q _⟩
        have p1 := Int.fmod_nonneg_of_pos (z * 48271 + k * 7919) (show (0 : Int) < 2147483647 by decide)
        have p2 := Int.fmod_lt_of_pos (z * 48271 + k * 7919) (show (0 : Int) < 2147483647 by decide)
        exact mulx_ok (a := 40) (b := 40) (by omega) (by omega) (by decide)
      · exact ⟨mulx_ok (a := 40) (b := 40) (by omega) (by omega) (by decide), by decide, q _⟩
theorem ok_begun {f : Addr} {fd : FuncData} (F : Fun K "_law_begun" "_law_begun" s_law_begun f fd) : FnOk P w K mg base CX0 1 f fd ["_law_cell_here"] spBegun := by
  refine F.ok sc_law_begun (fun vs H Q E h => ?_) (fun cdv A outer s H vs Q E hr h => ?_)
  · obtain ⟨z, rfl, _⟩ := h
    rfl
  · obtain ⟨z, rfl, q⟩ := h
    refine ⟨_, (pss_cons (ps_set (i := 1) sc_law_begun.nd rfl (by first | exact Or.inl rfl | exact Or.inr rfl) pe_int)
      (pss_cons (ps_if (pt_cmpR op_ge (pv 0) (pe_op op_pow pe_int pe_int) (nomark _)) (pss_one (ps_set (i := 1) sc_law_begun.nd rfl (by first | exact Or.inl rfl | exact Or.inr rfl) (pv 0))) pss_nil)
      (pss_one (ps_ret (pe_lst (pa_cons (pv 1) (pa_cons pe_int (pa_cons (pe_op op_modN (pv 0) pe_int) pa_nil)))))))), ?_⟩
    walk_at "rd"
    refine ⟨⟨by decide, by decide, by decide⟩, ite2 (fun c => ?_) (fun c => ?_)⟩
    all_goals exact ⟨by decide, by decide, New.intro fun p H1 np s1 h1 => q p H1 np s1 ⟨_, _, _, h1⟩⟩
theorem ok_draw {f : Addr} {fd : FuncData} (F : Fun K "_law_draw" "_law_draw" s_law_draw f fd) : FnOk P w K mg base CX0 1 f fd ["_law_state", "_law_many"] spDraw := by
  refine F.ok sc_law_draw (fun vs H Q E h => ?_) (fun cdv A outer s H vs Q E hr h => ?_)
  · obtain ⟨a, m, rfl, _⟩ := h
    rfl
  · obtain ⟨a, m, rfl, ⟨r, n, c, h0⟩, hm, hm2, q⟩ := h
    refine ⟨_, (pss_cons (ps_if (pt_cmpR op_gt (pe_ix (ix_listK (K := K)) (pv 0) pe_int (fun _ _ => rfl)) pe_int (nomark _)) (pss_cons (ps_set (i := 2) sc_law_draw.nd rfl (by first | exact Or.inl rfl | exact Or.inr rfl) (pe_op op_modN (pe_ix (ix_listK (K := K)) (pv 0) pe_int (fun _ _ => rfl)) (pv 1)))
      (pss_cons (ps_asg (pe_op op_fdivW (pe_ix (ix_listK (K := K)) (pv 0) pe_int (fun _ _ => rfl)) (pv 1)) (pg_sub (pv 0) pe_int set_list))
      (pss_one (ps_ret (pv 2))))) pss_nil)
      (pss_cons (ps_asg (pe_op op_add (pe_ix (ix_listK (K := K)) (pv 0) pe_int (fun _ _ => rfl)) pe_int) (pg_sub (pv 0) pe_int set_list))
      (pss_cons (ps_set (i := 3) sc_law_draw.nd rfl (by first | exact Or.inl rfl | exact Or.inr rfl) (pe_op op_modN (pe_op op_add (pe_op op_mul (pe_ix (ix_listK (K := K)) (pv 0) pe_int (fun _ _ => rfl)) pe_int) (pe_op op_mul (pe_ix (ix_listK (K := K)) (pv 0) pe_int (fun _ _ => rfl)) pe_int)) pe_int))
      (pss_cons (ps_set (i := 3) sc_law_draw.nd rfl (by first | exact Or.inl rfl | exact Or.inr rfl) (pe_op op_modN (pe_op op_add (pe_op op_mulX (pv 3) (pv 3)) (pe_op op_mul (pe_ix (ix_listK (K := K)) (pv 0) pe_int (fun _ _ => rfl)) pe_int)) pe_int))
      (pss_one (ps_ret (pe_op op_modN (pe_op op_modN (pe_op op_mulX (pv 3) (pv 3)) pe_int) (pv 1)))))))), ?_⟩
    walk_at "rd"
    have sq : ∀ {H1 : Hp} {r n c : Int}, H1 a = some (.lst [.int r, .int n, .int c]) → SqL K H1 a [.int r, .int n, .int c] := fun h => seq_of h
    refine ⟨_, sq h0, _, rfl, _, rfl, ite2 (fun d => ?_) (fun d => ?_)⟩
    · refine ⟨_, sq h0, _, rfl, _, rfl, by omega, _, sq h0, _, rfl, _, rfl, wide_div (b := 200) hm (by omega) (by decide) (by decide), _, h0, _, rfl, Upd.intro fun H2 o2 h2 => ?_⟩
      exact q _ _ (Int.fmod_nonneg_of_pos _ hm) (Int.fmod_lt_of_pos _ hm) o2 ⟨_, _, _, h2⟩
    · refine ⟨_, sq h0, _, rfl, _, rfl, _, h0, _, rfl, Upd.intro fun H1 o1 h1 => ?_⟩
      have p1 := Int.fmod_nonneg_of_pos (c * 48271 + (n + 1) * 1299709) (show (0 : Int) < 2147483647 by decide)
      have p2 := Int.fmod_lt_of_pos (c * 48271 + (n + 1) * 1299709) (show (0 : Int) < 2147483647 by decide)
      refine ⟨_, sq h1, _, rfl, _, rfl, .inr ⟨by decide, by decide⟩, _, sq h1, _, rfl, _, rfl, .inr ⟨by decide, by decide⟩, by decide, mulx_ok (a := 40) (b := 40) (by omega) (by omega) (by decide), _, sq h1, _, rfl, _, rfl, .inr ⟨by decide, by decide⟩, by decide, ?_⟩
      have q1 := Int.fmod_nonneg_of_pos ((c * 48271 + (n + 1) * 1299709).fmod 2147483647 * (c * 48271 + (n + 1) * 1299709).fmod 2147483647 + (n + 1) * 7919) (show (0 : Int) < 2147483629 by decide)
      have q2 := Int.fmod_lt_of_pos ((c * 48271 + (n + 1) * 1299709).fmod 2147483647 * (c * 48271 + (n + 1) * 1299709).fmod 2147483647 + (n + 1) * 7919) (show (0 : Int) < 2147483629 by decide)
      refine ⟨mulx_ok (a := 40) (b := 40) (by omega) (by omega) (by decide), by decide, by omega, ?_⟩
      exact q _ _ (Int.fmod_nonneg_of_pos _ hm) (Int.fmod_lt_of_pos _ hm) o1 ⟨_, _, _, h1⟩
end

/-! ### words.py -/
def spIsWhole (K : PySem.W.Frag) : Sp := fun vs H Q _ => ∃ (x : V) (T : String), vs = [x] ∧ Thg K H x T ∧ Q (.bl (isWh x)) H
section
variable {P : Program} {w : World} {K : PySem.W.Frag} {mg : Str → Option Value} {base : Heap}
theorem ok_isWhole {f : Addr} {fd : FuncData} (F : Fun K "is_whole" "is_whole" s_is_whole f fd) (z_isinstance : mg "isinstance" = none) (z_int : mg "int" = none) (z_bool : mg "bool" = none) : FnOk P w K mg base CX0 1 f fd ["thing"] (spIsWhole K) := by
  refine F.ok sc_is_whole (fun vs H Q E h => ?_) (fun cdv A outer s H vs Q E hr h => ?_)
  · obtain ⟨x, T, rfl, _⟩ := h
    rfl
  · obtain ⟨x, T, rfl, t, q⟩ := h
    refine ⟨_, (pss_one (ps_ret (pe_and (pe_callB (call_isiK' (K := K)) (by rfl) z_isinstance (by decide +kernel) (pa_cons (pv 0) (pa_cons (pe_bltn (v := V.ty "int") (u := Value.type "int") (by rfl) z_int (by decide +kernel) rfl) pa_nil))) (pe_one (pe_not (pe_callB (call_isiK' (K := K)) (by rfl) z_isinstance (by decide +kernel) (pa_cons (pv 0) (pa_cons (pe_bltn (v := V.ty "bool") (u := Value.type "bool") (by rfl) z_bool (by decide +kernel) rfl) pa_nil)))))))), ?_⟩
    walk_at "rd"
    have e := isWh_of t
    refine isiT t (by decide) (ite2 (fun c => isiT t (by decide) ?_) (fun c => ?_))
    · rw [c, Bool.true_and] at e
      rw [e]
      exact q
    · rw [Bool.eq_false_iff.mpr c, Bool.false_and] at e
      rw [e]
      exact q
end

/-! ### room.py: places -/
def okP (c s b : Int) : Bool := decide (0 ≤ c) && (if b = 2 then decide (0 ≤ s) && decide (s < 8) && decide (s % 2 = 0) else decide (s = 0) && decide (8 ≤ b) && decide (b ≤ 512) && decide (b % 8 = 0))
def placeOk (xs : List V) : Bool := match xs with
  | [v, v1, v2] => (match v, v1, v2 with
    | .int c, .int s, .int b => okP c s b
    | _, _, _ => false)
  | _ => false
def spIsPlace (K : PySem.W.Frag) : Sp := fun vs H Q _ => ∃ (x : V) (T : String), vs = [x] ∧ Thg K H x T ∧
  ((T ≠ "tuple" ∧ Q (.bl false) H) ∨ ∃ a xs, x = .ref a ∧ SqT K H a xs ∧ (∀ y ∈ xs, ∃ T, Thg K H y T) ∧ Q (.bl (placeOk xs)) H)
section
variable {P : Program} {w : World} {K : PySem.W.Frag} {mg : Str → Option Value} {base : Heap}
theorem ok_isPlace {f : Addr} {fd : FuncData} (F : Fun K "is_place" "is_place" s_is_place f fd) (z_isinstance : mg "isinstance" = none) (z_tuple : mg "tuple" = none) (z_len : mg "len" = none)
    (c_TAG_BITS : ∃ t, mg "TAG_BITS" = some (.int 2 t)) (c_CELL_BITS : ∃ t, mg "CELL_BITS" = some (.int 8 t)) (c_MOST_BITS : ∃ t, mg "MOST_BITS" = some (.int 512 t))
    (D_is_whole : Dn P w K mg base CX0 1 "is_whole" ["thing"] (spIsWhole K)) : FnOk P w K mg base CX0 2 f fd ["thing"] (spIsPlace K) := by
  refine F.ok sc_is_place (fun vs H Q E h => ?_) (fun cdv A outer s H vs Q E hr h => ?_)
  · obtain ⟨x, T, rfl, _⟩ := h
    rfl
  · obtain ⟨x, T, rfl, t, q⟩ := h
    refine ⟨_, (pss_cons (ps_if (PW.pt (pw_or (pt_not (pt_val (pe_callB (call_isiK' (K := K)) (by rfl) z_isinstance (by decide +kernel) (pa_cons (pv 0) (pa_cons (pe_bltn (v := V.ty "tuple") (u := Value.type "tuple") (by rfl) z_tuple (by decide +kernel) rfl) pa_nil))))) (pw_or1 (pt_cmpR op_ne (pe_callB (call_lenR (K := K)) (by rfl) z_len (by decide +kernel) (pa_cons (pv 0) pa_nil)) pe_int (nomark _))))) (pss_one (ps_ret pe_bl)) pss_nil)
      (pss_cons (ps_asg (pv 0) (pg_tup rfl (pgs_cons (pg_name (i := 1) sc_is_place.nd rfl (by first | exact Or.inl rfl | exact Or.inr rfl)) (pgs_cons (pg_name (i := 2) sc_is_place.nd rfl (by first | exact Or.inl rfl | exact Or.inr rfl)) (pgs_cons (pg_name (i := 3) sc_is_place.nd rfl (by first | exact Or.inl rfl | exact Or.inr rfl)) pgs_nil)))))
      (pss_cons (ps_if (PW.pt (pw_or (pt_not (pt_val (pe_cd D_is_whole (hr.mono (by decide)) (by rfl) pass0 (pa_cons (pv 1) pa_nil)))) (pw_or (pt_not (pt_val (pe_cd D_is_whole (hr.mono (by decide)) (by rfl) pass0 (pa_cons (pv 2) pa_nil)))) (pw_or (pt_not (pt_val (pe_cd D_is_whole (hr.mono (by decide)) (by rfl) pass0 (pa_cons (pv 3) pa_nil)))) (pw_or1 (pt_cmpR op_lt (pv 1) pe_int (nomark _))))))) (pss_one (ps_ret pe_bl)) pss_nil)
      (pss_cons (ps_if (pt_cmpR op_eq (pv 3) (pe_gi (by rfl) c_TAG_BITS) (nomark _)) (pss_one (ps_ret (pe_and (pe_chain op_le op_lt pe_int (pv 2) (pe_gi (by rfl) c_CELL_BITS)) (pe_one (pe_cmpR op_eq (pe_op op_modN (pv 2) (pe_gi (by rfl) c_TAG_BITS)) pe_int (nomark _)))))) pss_nil)
      (pss_one (ps_ret (pe_and (pe_cmpR op_eq (pv 2) pe_int (nomark _)) (pe_and (pe_chain op_le op_le (pe_gi (by rfl) c_CELL_BITS) (pv 3) (pe_gi (by rfl) c_MOST_BITS)) (pe_one (pe_cmpR op_eq (pe_op op_modN (pv 3) (pe_gi (by rfl) c_CELL_BITS)) pe_int (nomark _))))))))))), ?_⟩
    walk_at "rd"
    rcases q with ⟨hT, q⟩ | ⟨a, xs, rfl, hS, hk, q⟩
    · refine isiT t (by decide) (iteP ?_ q)
      simp [kindIs, hT]
    · refine isiT (thg_tup hS) (by decide) (iteN (by decide) ⟨a, rfl, xs, .inr hS, ite2 (fun l3 => ?_) (fun l3 => ?_)⟩)
      · have e : placeOk xs = false := by
          match xs with
          | [] => rfl
          | [_] => rfl
          | [_, _] => rfl
          | [_, _, _] => exact absurd rfl l3
          | _ :: _ :: _ :: _ :: _ => rfl
        rw [e] at q
        exact q
      · obtain ⟨v, v1, v2, rfl⟩ : ∃ v v1 v2, xs = [v, v1, v2] := by
          match xs, l3 with
          | [v, v1, v2], _ => exact ⟨v, v1, v2, rfl⟩
          | [], c => exact absurd (fun h => by cases h) c
          | [_], c => exact absurd (fun h => by cases h) c
          | [_, _], c => exact absurd (fun h => by cases h) c
          | _ :: _ :: _ :: _ :: r, c =>
            refine absurd (fun h => ?_) c
            simp only [List.length_cons] at h
            omega
        obtain ⟨T1, t1⟩ := hk v (by simp)
        obtain ⟨T2, t2⟩ := hk v1 (by simp)
        obtain ⟨T3, t3⟩ := hk v2 (by simp)
        refine ⟨a, rfl, _, hS, rfl, _, _, rfl, _, _, rfl, _, _, rfl, rfl, ?_⟩
        refine ⟨v, T1, rfl, t1, _, rfl, ?_⟩
        have no : ∀ {v v1 v2 : V}, (∀ c s b, ¬ (v = .int c ∧ v1 = .int s ∧ v2 = .int b)) → placeOk [v, v1, v2] = false := fun {v v1 v2} h => by
          unfold placeOk
          dsimp only
          split
          · exact absurd ⟨rfl, rfl, rfl⟩ (h _ _ _)
          · rfl
        refine ite2 (fun w1 => ?_) (fun w1 => ⟨v1, T2, rfl, t2, _, rfl, ite2 (fun w2 => ?_) (fun w2 => ⟨v2, T3, rfl, t3, _, rfl, ite2 (fun w3 => ?_) (fun w3 => ?_)⟩)⟩)
        · rw [no (fun c s b h => by rw [h.1] at w1; cases w1)] at q
          exact q
        · rw [no (fun c s b h => by rw [h.2.1] at w2; cases w2)] at q
          exact q
        · rw [no (fun c s b h => by rw [h.2.2] at w3; cases w3)] at q
          exact q
        · clear l3
          obtain ⟨c, rfl⟩ : ∃ c, v = .int c := by cases v <;> first | exact ⟨_, rfl⟩ | exact absurd rfl w1
          obtain ⟨s, rfl⟩ : ∃ c, v1 = .int c := by cases v1 <;> first | exact ⟨_, rfl⟩ | exact absurd rfl w2
          obtain ⟨b, rfl⟩ : ∃ c, v2 = .int c := by cases v2 <;> first | exact ⟨_, rfl⟩ | exact absurd rfl w3
          have key : ∀ B : Bool, okP c s b = B → Q (.bl B) H := fun B e => by
            rw [← e]
            exact q
          walk_at "rd"
          have e2 : s.fmod 2 = s % 2 := Int.fmod_eq_emod_of_nonneg s (by decide)
          have e8 : b.fmod 8 = b % 8 := Int.fmod_eq_emod_of_nonneg b (by decide)
          rw [e2, e8]
          unfold okP at key
          refine ite2 (fun c0 => key _ ?_) (fun c0 => ite2 (fun h2 => ite2 (fun s0 => ite2 (fun s8 => ⟨by decide, key _ ?_⟩) (fun s8 => key _ ?_)) (fun s0 => key _ ?_)) (fun h2 => ite2 (fun s0 => ite2 (fun b8 => ite2 (fun b5 => ⟨by decide, key _ ?_⟩) (fun b5 => key _ ?_)) (fun b8 => key _ ?_)) (fun s0 => key _ ?_)))
          · rw [decide_eq_false (by omega), Bool.false_and]
          all_goals rw [decide_eq_true (show 0 ≤ c by omega), Bool.true_and]
          · rw [if_pos h2, decide_eq_true s0, decide_eq_true s8, Bool.true_and, Bool.true_and]
          · rw [if_pos h2, decide_eq_false s8, Bool.and_false, Bool.false_and]
          · rw [if_pos h2, decide_eq_false s0, Bool.false_and, Bool.false_and]
          · rw [if_neg h2, decide_eq_true s0, decide_eq_true b8, decide_eq_true b5, Bool.true_and, Bool.true_and, Bool.true_and]
          · rw [if_neg h2, decide_eq_false b5, Bool.and_false, Bool.false_and]
          · rw [if_neg h2, decide_eq_false b8, Bool.and_false, Bool.false_and, Bool.false_and]
          · rw [if_neg h2, decide_eq_false s0, Bool.false_and, Bool.false_and, Bool.false_and]
end
/-! places that are places -/
def lastC (c s b : Int) : Int := c + (s + b - 1) / 8
theorem okP_last {c s b : Int} (h : okP c s b = true) : 0 ≤ c ∧ 0 ≤ s ∧ s < 8 ∧ 2 ≤ b ∧ b ≤ 512 ∧ c ≤ lastC c s b ∧ lastC c s b ≤ c + 64 := by
  unfold okP at h
  unfold lastC
  rw [Bool.and_eq_true] at h
  obtain ⟨h0, h⟩ := h
  have h0 := of_decide_eq_true h0
  split at h
  · simp only [Bool.and_eq_true, decide_eq_true_eq] at h
    omega
  · simp only [Bool.and_eq_true, decide_eq_true_eq] at h
    omega
def cellsR (c s b : Int) : List Int := (List.range (lastC c s b - c + 1).toNat).map fun (k : Nat) => c + (k : Int)
def spLastCell (K : PySem.W.Frag) : Sp := fun vs H Q _ => ∃ (a : Addr) (c s b : Int), vs = [.ref a] ∧ SqT K H a [.int c, .int s, .int b] ∧ Q (.int (lastC c s b)) H
def spNeedOk (K : PySem.W.Frag) : Sp := fun vs H Q _ => ∃ (a : Addr) (c s b : Int), vs = [.ref a] ∧ SqT K H a [.int c, .int s, .int b] ∧ okP c s b = true ∧ Q .non H
def spCellsIn (K : PySem.W.Frag) : Sp := fun vs H Q _ => ∃ (a : Addr) (c s b : Int), vs = [.ref a] ∧ SqT K H a [.int c, .int s, .int b] ∧ okP c s b = true ∧ ∀ p H1, H p = none → Same H H1 → H1 p = some (.lst ((cellsR c s b).map V.int)) → Q (.ref p) H1
section
variable {P : Program} {w : World} {K : PySem.W.Frag} {mg : Str → Option Value} {base : Heap}
theorem ok_lastCell {f : Addr} {fd : FuncData} (F : Fun K "last_cell" "last_cell" s_last_cell f fd) (c_CELL_BITS : ∃ t, mg "CELL_BITS" = some (.int 8 t)) : FnOk P w K mg base CX0 1 f fd ["place"] (spLastCell K) := by
  refine F.ok sc_last_cell (fun vs H Q E h => ?_) (fun cdv A outer s H vs Q E hr h => ?_)
  · obtain ⟨a, c, s, b, rfl, _⟩ := h
    rfl
  · obtain ⟨a, c, s, b, rfl, hS, q⟩ := h
    refine ⟨_, (pss_one (ps_ret (pe_op op_add (pe_ix (ix_tupK (K := K)) (pv 0) pe_int (fun _ _ => rfl)) (pe_op op_fdivW (pe_op op_sub (pe_op op_add (pe_ix (ix_tupK (K := K)) (pv 0) pe_int (fun _ _ => rfl)) (pe_ix (ix_tupK (K := K)) (pv 0) pe_int (fun _ _ => rfl))) pe_int) (pe_gi (by rfl) c_CELL_BITS))))), ?_⟩
    walk_at "rd"
    exact ⟨_, hS, _, rfl, _, hS, _, rfl, _, hS, _, rfl, _, rfl, _, rfl, ⟨by decide, by decide⟩, _, rfl, q⟩
theorem ok_needOk {f : Addr} {fd : FuncData} (F : Fun K "need_place" "need_place" s_need_place f fd) (D_is_place : Dn P w K mg base CX0 2 "is_place" ["thing"] (spIsPlace K)) : FnOk P w K mg base CX0 3 f fd ["thing"] (spNeedOk K) := by
  refine F.ok sc_need_place (fun vs H Q E h => ?_) (fun cdv A outer s H vs Q E hr h => ?_)
  · obtain ⟨a, c, s, b, rfl, _⟩ := h
    rfl
  · obtain ⟨a, c, s, b, rfl, hS, ho, q⟩ := h
    refine ⟨_, (pss_one (ps_if (pt_not (pt_val (pe_cd D_is_place (hr.mono (by decide)) (by rfl) pass0 (pa_cons (pv 0) pa_nil)))) (pss_one ps_never) pss_nil)), ?_⟩
    walk_at "rd"
    refine ⟨_, _, rfl, thg_tup hS, .inr ⟨a, _, rfl, hS, fun y hy => ⟨"int", ?_⟩, _, rfl, ?_⟩⟩
    · simp only [List.mem_cons, List.not_mem_nil, or_false] at hy
      rcases hy with e | e | e
      all_goals
        subst e
        exact thg_int
    · have e : placeOk [.int c, .int s, .int b] = true := ho
      rw [e]
      exact iteN (by decide) q
theorem ok_cellsIn {f : Addr} {fd : FuncData} (F : Fun K "cells_in" "cells_in" s_cells_in f fd) (z_range : mg "range" = none) (D_need_place : Dn P w K mg base CX0 3 "need_place" ["thing"] (spNeedOk K)) (D_last_cell : Dn P w K mg base CX0 1 "last_cell" ["place"] (spLastCell K)) : FnOk P w K mg base CX0 4 f fd ["place"] (spCellsIn K) := by
  refine F.ok sc_cells_in (fun vs H Q E h => ?_) (fun cdv A outer s H vs Q E hr h => ?_)
  · obtain ⟨a, c, s, b, rfl, _⟩ := h
    rfl
  · obtain ⟨a, c, s, b, rfl, hS, ho, q⟩ := h
    refine ⟨_, (pss_cons (ps_expr (pe_cd D_need_place (hr.mono (by decide)) (by rfl) pass0 (pa_cons (pv 0) pa_nil)))
      (pss_one (ps_ret (pe_lc (own := [("k", 1)]) (g := gName 1) (tt := tYes) rfl sc_cells_in.nd (pi_rangeL1 (by rfl) z_range (pa_cons (pe_op op_add (pe_op op_sub (pe_cd D_last_cell (hr.mono (by decide)) (by rfl) pass0 (pa_cons (pv 0) pa_nil)) (pe_ix (ix_tupK (K := K)) (pv 0) pe_int (fun _ _ => rfl))) pe_int) pa_nil)) (blkOk_by (own := [("k", 1)]) (N := ["place", "k"]) (sc := defScope s_cells_in) (by decide +kernel)) (fun _ _ _ _ _ => pg_name (i := 1) sc_cells_in.nd rfl (Or.inl rfl)) (fun _ _ _ _ _ => pts_nil) (fun _ _ _ _ _ => (pe_op op_add (pe_ix (ix_tupK (K := K)) (pv 0) pe_int (fun _ _ => rfl)) (pv 1))))))), ?_⟩
    have hb := okP_last ho
    walk_at "rd"
    refine ⟨a, c, s, b, rfl, hS, ho, ?_⟩
    walk_at "rd"
    refine ⟨a, c, s, b, rfl, hS, _, hS, _, rfl, _, rfl, _, rfl, Cmp.pureR (fun k => .int (c + (k : Int))) (by omega) (fun _ => rfl) ?_ ?_⟩
    · intro i H2 R hi s2 hR
      walk_at "rd"
      refine ⟨_, Same.seqT s2 hS, _, rfl, _, rfl, ?_⟩
      rw [Int.zero_add]
      exact hR H2 (Same.refl H2)
    · intro l H2 nl s2 h2
      refine q l H2 nl s2 ?_
      rw [h2]
      unfold cellsR
      rw [List.map_map]
      rfl
end

section
variable {P : Program} {w : World} {K : PySem.W.Frag} {mg : Str → Option Value} {base : Heap}
def spLWhole (K : PySem.W.Frag) : Sp := fun vs H Q _ => ∃ (x : V) (T : String), vs = [x] ∧ Thg K H x T ∧ Q (.bl (isWh x)) H
theorem ok_lwhole {f : Addr} {fd : FuncData} (F : Fun K "_law_whole" "_law_whole" s_law_whole f fd) (z_isinstance : mg "isinstance" = none) (z_int : mg "int" = none) (z_bool : mg "bool" = none) : FnOk P w K mg base CX0 1 f fd ["_law_found"] (spLWhole K) := by
  refine F.ok sc_law_whole (fun vs H Q E h => ?_) (fun cdv A outer s H vs Q E hr h => ?_)
  · obtain ⟨x, T, rfl, _⟩ := h
    rfl
  · obtain ⟨x, T, rfl, t, q⟩ := h
    refine ⟨_, (pss_one (ps_ret (pe_and (pe_callB (call_isiK' (K := K)) (by rfl) z_isinstance (by decide +kernel) (pa_cons (pv 0) (pa_cons (pe_bltn (v := V.ty "int") (u := Value.type "int") (by rfl) z_int (by decide +kernel) rfl) pa_nil))) (pe_one (pe_not (pe_callB (call_isiK' (K := K)) (by rfl) z_isinstance (by decide +kernel) (pa_cons (pv 0) (pa_cons (pe_bltn (v := V.ty "bool") (u := Value.type "bool") (by rfl) z_bool (by decide +kernel) rfl) pa_nil)))))))), ?_⟩
    walk_at "rd"
    have e := isWh_of t
    refine isiT t (by decide) (ite2 (fun c => isiT t (by decide) ?_) (fun c => ?_))
    · rw [c, Bool.true_and] at e
      rw [e]
      exact q
    · rw [Bool.eq_false_iff.mpr c, Bool.false_and] at e
      rw [e]
      exact q
end

/-! ### the mathematics -/
theorem DSt.same {H H' : Hp} {a : Addr} (d : DSt H a) (s : Same H H') : DSt H' a := let ⟨r, n, c, h⟩ := d; ⟨r, n, c, s _ _ h⟩
theorem DSt.ne {H : Hp} {a p : Addr} (d : DSt H a) (h : H p = none) : a ≠ p := fun e => by
  subst e
  obtain ⟨r, n, c, d⟩ := d
  rw [h] at d
  cases d
theorem noneD {t p : Addr} {H H' : Hp} (o : Off t H H') (d : DSt H t) (d' : DSt H' t) (h : H' p = none) : H p = none := by
  obtain ⟨r, n, c, d⟩ := d
  obtain ⟨r', n', c', d'⟩ := d'
  exact o.none d h ⟨_, d'⟩
theorem pickI {xs : List Int} {v : Int} (h0 : 0 ≤ v) (h1 : v < xs.length) : ∃ z ∈ xs, atI (xs.map V.int) v = some (.int z) := by
  have hj : v.toNat < xs.length := by omega
  refine ⟨xs[v.toNat], List.getElem_mem hj, at_of (j := v.toNat) (by omega) ?_⟩
  rw [List.getElem?_map, List.getElem?_eq_getElem hj]
  rfl
theorem okP_tag {c k : Int} (h : 0 ≤ c) (k0 : 0 ≤ k) (k1 : k < 4) : okP c (2 * k) 2 = true := by
  unfold okP
  rw [decide_eq_true h, if_pos rfl, decide_eq_true (by omega), decide_eq_true (by omega), decide_eq_true (by omega)]
  rfl
theorem okP_whole {c m : Int} (h : 0 ≤ c) (k0 : 1 ≤ m) (k1 : m ≤ 64) : okP c 0 (8 * m) = true := by
  unfold okP
  rw [decide_eq_true h, if_neg (by omega), decide_eq_true rfl, decide_eq_true (by omega), decide_eq_true (by omega), decide_eq_true (by omega)]
  rfl
theorem okP_move {c s b y : Int} (h : okP c s b = true) (hy : 0 ≤ y) : okP (c + y) s b = true := by
  have hb := okP_last h
  unfold okP at h ⊢
  rw [Bool.and_eq_true] at h
  rw [h.2, decide_eq_true (by omega)]
  rfl
def bitsR (c s b : Int) : List Int := (List.range b.toNat).map fun (k : Nat) => 8 * c + s + (k : Int)
theorem bits_at {c s b z : Int} {i : Nat} (h : (bitsR c s b)[i]? = some z) : z = 8 * c + s + (i : Int) ∧ i < b.toNat := by
  unfold bitsR at h
  rw [List.getElem?_map] at h
  by_cases hi : i < b.toNat
  · rw [List.getElem?_range hi] at h
    exact ⟨(Option.some.inj h).symm, hi⟩
  · rw [List.getElem?_eq_none (by rw [List.length_range]; omega)] at h
    cases h
def sharesR (c s b c' s' b' : Int) : Bool := decide (8 * c + s < 8 * c' + s' + b') && decide (8 * c' + s' < 8 * c + s + b)
theorem shares_comm (c s b c' s' b' : Int) : sharesR c s b c' s' b' = sharesR c' s' b' c s b := by
  unfold sharesR
  rw [Bool.and_comm]
theorem shares_bits {c s b c' s' b' : Int} (h : 2 ≤ b) (h' : 2 ≤ b') : (!decide ((bitsR c' s' b').filter ((fun x => match x with | V.int z => decide (8 * c + s ≤ z) && decide (z ≤ 8 * c + s + b - 1) | _ => false) ∘ V.int) = [])) = sharesR c s b c' s' b' := by
  have key : (bitsR c' s' b').filter ((fun x => match x with | V.int z => decide (8 * c + s ≤ z) && decide (z ≤ 8 * c + s + b - 1) | _ => false) ∘ V.int) = [] ↔ ¬ (8 * c + s < 8 * c' + s' + b' ∧ 8 * c' + s' < 8 * c + s + b) := by
    rw [List.filter_eq_nil_iff]
    constructor
    · rintro hn ⟨h1, h2⟩
      have mem : ∀ z : Int, 8 * c' + s' ≤ z → z < 8 * c' + s' + b' → z ∈ bitsR c' s' b' := fun z g1 g2 => List.mem_map.mpr ⟨(z - (8 * c' + s')).toNat, List.mem_range.mpr (by omega), by omega⟩
      by_cases g : 8 * c + s ≤ 8 * c' + s'
      · refine hn (8 * c' + s') (mem _ (by omega) (by omega)) ?_
        show (decide _ && decide _) = true
        rw [decide_eq_true g, decide_eq_true (by omega)]
        rfl
      · refine hn (8 * c + s) (mem _ (by omega) (by omega)) ?_
        show (decide _ && decide _) = true
        rw [decide_eq_true (Int.le_refl _), decide_eq_true (by omega)]
        rfl
    · rintro hn z hz e
      obtain ⟨k, hk, rfl⟩ := List.mem_map.mp hz
      have hk2 := List.mem_range.mp hk
      have e2 : (decide (8 * c + s ≤ 8 * c' + s' + (k : Int)) && decide (8 * c' + s' + (k : Int) ≤ 8 * c + s + b - 1)) = true := e
      rw [Bool.and_eq_true, decide_eq_true_eq, decide_eq_true_eq] at e2
      exact hn (by omega)
  unfold sharesR
  rw [← Bool.decide_and]
  by_cases g : 8 * c + s < 8 * c' + s' + b' ∧ 8 * c' + s' < 8 * c + s + b
  · rw [decide_eq_true g, decide_eq_false fun e => key.mp e g]
    rfl
  · rw [decide_eq_false g, decide_eq_true (key.mpr g)]
    rfl
def upTo (c : Int) (n : Nat) : List Int := (List.range n).map fun (k : Nat) => c + (k : Int)
theorem mem_upTo {c x : Int} {n : Nat} : x ∈ upTo c n ↔ c ≤ x ∧ x < c + n := by
  unfold upTo
  rw [List.mem_map]
  constructor
  · rintro ⟨k, hk, rfl⟩
    have := List.mem_range.mp hk
    omega
  · rintro ⟨h1, h2⟩
    exact ⟨(x - c).toNat, List.mem_range.mpr (by omega), by omega⟩
theorem upTo_succ (c : Int) (n : Nat) : upTo c (n + 1) = upTo c n ++ [c + n] := by
  unfold upTo
  rw [List.range_succ, List.map_append]
  rfl
theorem upTo_len (c : Int) (n : Nat) : (upTo c n).length = n := by
  unfold upTo
  rw [List.length_map, List.length_range]
def cnt (s : Int) (i : Nat) : Nat := if i = 0 then 0 else ((s + i - 1) / 8 + 1).toNat
theorem cnt_zero (s : Int) : cnt s 0 = 0 := rfl
theorem cnt_succ {s : Int} (h0 : 0 ≤ s) (i : Nat) : cnt s (i + 1) = ((s + i) / 8 + 1).toNat := by
  unfold cnt
  rw [if_neg (by omega)]
  congr 3
  omega
theorem cnt_step {s : Int} (h0 : 0 ≤ s) (h1 : s < 8) (i : Nat) : ((s + i) / 8 < cnt s i ∧ cnt s (i + 1) = cnt s i) ∨ ((s + i) / 8 = cnt s i ∧ cnt s (i + 1) = cnt s i + 1) := by
  rw [cnt_succ h0]
  unfold cnt
  split <;> omega
theorem cut_init (xs : List V) (x : V) : cutV (xs ++ [x]) none (some (-1)) = xs := by
  unfold cutV HT.sIx
  simp only [List.length_append, List.length_singleton, List.drop_zero, Nat.sub_zero]
  rw [if_pos (by decide), show (-1 + ((xs.length + 1 : Nat) : Int)).toNat = xs.length by omega, List.take_append_of_le_length (Nat.le_refl _), List.take_length]
/-! ### the promises -/
def spShares (K : PySem.W.Frag) : Sp := fun vs H Q _ => ∃ (p q : Addr) (c s b c' s' b' : Int), vs = [.ref p, .ref q] ∧ SqT K H p [.int c, .int s, .int b] ∧ SqT K H q [.int c', .int s', .int b'] ∧ okP c s b = true ∧ okP c' s' b' = true ∧ Q (.bl (sharesR c s b c' s' b')) H
def spBits (K : PySem.W.Frag) : Sp := fun vs H Q _ => ∃ (p : Addr) (c s b : Int), vs = [.ref p] ∧ SqT K H p [.int c, .int s, .int b] ∧ okP c s b = true ∧ ∀ l H1, H l = none → Same H H1 → H1 l = some (.lst ((bitsR c s b).map V.int)) → Q (.ref l) H1
def spPlace : Sp := fun vs H Q _ => ∃ (t : Addr) (W : Int), vs = [.ref t, .int W] ∧ DSt H t ∧ 1 ≤ W ∧ W ≤ 10000 ∧ ∀ p H1 (c s b : Int), H p = none → Off t H H1 → DSt H1 t → H1 p = some (.tup [.int c, .int s, .int b]) → okP c s b = true → Q (.ref p) H1
def spMoved (K : PySem.W.Frag) : Sp := fun vs H Q _ => ∃ (q : Addr) (c s b y : Int), vs = [.ref q, .int y] ∧ SqT K H q [.int c, .int s, .int b] ∧ ∀ p H1, H p = none → Same H H1 → H1 p = some (.tup [.int (c + y), .int s, .int b]) → Q (.ref p) H1
def spCells (K : PySem.W.Frag) : Sp := fun vs H Q _ => ∃ (p : Addr) (c s b : Int), vs = [.ref p] ∧ SqT K H p [.int c, .int s, .int b] ∧ okP c s b = true ∧ ∀ l H1, H l = none → Same H H1 → H1 l = some (.lst ((cellsR c s b).map V.int)) → Q (.ref l) H1
def spTold (K : PySem.W.Frag) : Sp := fun vs H Q _ => ∃ (p : Addr) (c s b : Int), vs = [.ref p] ∧ SqT K H p [.int c, .int s, .int b] ∧ okP c s b = true ∧ ∀ H1, Same H H1 → Q (.bl true) H1
def spLShares (K : PySem.W.Frag) : Sp := fun vs H Q _ => ∃ (p q : Addr) (c s b c' s' b' : Int), vs = [.ref p, .ref q] ∧ SqT K H p [.int c, .int s, .int b] ∧ SqT K H q [.int c', .int s', .int b'] ∧ okP c s b = true ∧ okP c' s' b' = true ∧ ∀ H1, Same H H1 → Q (.bl true) H1
def spOther (K : PySem.W.Frag) : Sp := fun vs H Q _ => ∃ (t p : Addr) (c s b W : Int), vs = [.ref t, .ref p, .int W] ∧ DSt H t ∧ SqT K H p [.int c, .int s, .int b] ∧ okP c s b = true ∧ 1 ≤ W ∧ W ≤ 10000 ∧ ∀ p' H1 (c' s' b' : Int), Off t H H1 → DSt H1 t → SqT K H1 p' [.int c', .int s', .int b'] → okP c' s' b' = true → Q (.ref p') H1
def spLaw (K : PySem.W.Frag) : Sp := fun vs H Q _ => ∃ (a : Addr) (ns : List Int), vs = [.ref a] ∧ SqL K H a (ns.map V.int) ∧ ns.length ≤ 63 ∧ ∀ H', Q (.bl true) H'
section
variable {P : Program} {w : World} {K : PySem.W.Frag} {mg : Str → Option Value} {base : Heap}
theorem ok_shares {f : Addr} {fd : FuncData} (F : Fun K "shares" "shares" s_shares f fd) (c_CELL_BITS : ∃ t, mg "CELL_BITS" = some (.int 8 t)) (D_need_place : Dn P w K mg base CX0 3 "need_place" ["thing"] (spNeedOk K)) : FnOk P w K mg base CX0 4 f fd ["one", "other"] (spShares K) := by
  refine F.ok sc_shares (fun vs H Q E h => ?_) (fun cdv A outer s H vs Q E hr h => ?_)
  · obtain ⟨p, q, c, s, b, c', s', b', rfl, _⟩ := h
    rfl
  · obtain ⟨p, q, c, s, b, c', s', b', rfl, hp, hq, ho, ho', Q0⟩ := h
    refine ⟨_, (pss_cons (ps_expr (pe_cd D_need_place (hr.mono (by decide)) (by rfl) pass0 (pa_cons (pv 0) pa_nil)))
      (pss_cons (ps_expr (pe_cd D_need_place (hr.mono (by decide)) (by rfl) pass0 (pa_cons (pv 1) pa_nil)))
      (pss_cons (ps_set (i := 2) sc_shares.nd rfl (by first | exact Or.inl rfl | exact Or.inr rfl) (pe_op op_add (pe_op op_mul (pe_gi (by rfl) c_CELL_BITS) (pe_ix (ix_tupK (K := K)) (pv 0) pe_int (fun _ _ => rfl))) (pe_ix (ix_tupK (K := K)) (pv 0) pe_int (fun _ _ => rfl))))
      (pss_cons (ps_set (i := 3) sc_shares.nd rfl (by first | exact Or.inl rfl | exact Or.inr rfl) (pe_op op_add (pe_op op_mul (pe_gi (by rfl) c_CELL_BITS) (pe_ix (ix_tupK (K := K)) (pv 1) pe_int (fun _ _ => rfl))) (pe_ix (ix_tupK (K := K)) (pv 1) pe_int (fun _ _ => rfl))))
      (pss_one (ps_ret (pe_and (pe_cmpR op_lt (pv 2) (pe_op op_add (pv 3) (pe_ix (ix_tupK (K := K)) (pv 1) pe_int (fun _ _ => rfl))) (nomark _)) (pe_one (pe_cmpR op_lt (pv 3) (pe_op op_add (pv 2) (pe_ix (ix_tupK (K := K)) (pv 0) pe_int (fun _ _ => rfl))) (nomark _)))))))))), ?_⟩
    walk_at "rd"
    refine ⟨p, c, s, b, rfl, hp, ho, ?_⟩
    walk_at "rd"
    refine ⟨q, c', s', b', rfl, hq, ho', ?_⟩
    walk_at "rd"
    refine ⟨_, hp, _, rfl, _, rfl, .inl ⟨by decide, by decide⟩, _, hp, _, rfl, _, rfl, _, hq, _, rfl, _, rfl, .inl ⟨by decide, by decide⟩, _, hq, _, rfl, _, rfl, _, hq, _, rfl, _, rfl, ?_⟩
    unfold sharesR at Q0
    refine ite2 (fun h => ?_) (fun h => ?_)
    · rw [decide_eq_true h, Bool.true_and] at Q0
      exact ⟨_, hp, _, rfl, _, rfl, Q0⟩
    · rw [decide_eq_false h, Bool.false_and] at Q0
      exact Q0
theorem ok_place {f : Addr} {fd : FuncData} (F : Fun K "_law_place" "_law_place" s_law_place f fd) (z_min : mg "min" = none) (D_law_draw : Dn P w K mg base CX0 1 "_law_draw" ["_law_state", "_law_many"] spDraw) : FnOk P w K mg base CX0 2 f fd ["_law_state", "_law_wide"] spPlace := by
  refine F.ok sc_law_place (fun vs H Q E h => ?_) (fun cdv A outer s H vs Q E hr h => ?_)
  · obtain ⟨t, W, rfl, _⟩ := h
    rfl
  · obtain ⟨t, W, rfl, d0, hW, hW2, q⟩ := h
    refine ⟨_, (pss_cons (ps_set (i := 2) sc_law_place.nd rfl (by first | exact Or.inl rfl | exact Or.inr rfl) (pe_ix (ix_listK (K := K)) (pe_lst (pa_cons pe_int (pa_cons (pe_op op_sub (pv 1) pe_int) (pa_cons (pe_cd D_law_draw (hr.mono (by decide)) (by rfl) pass0 (pa_cons (pv 0) (pa_cons (pv 1) pa_nil))) (pa_cons (pe_cd D_law_draw (hr.mono (by decide)) (by rfl) pass0 (pa_cons (pv 0) (pa_cons (pv 1) pa_nil))) pa_nil))))) (pe_cd D_law_draw (hr.mono (by decide)) (by rfl) pass0 (pa_cons (pv 0) (pa_cons pe_int pa_nil))) (fun _ _ => rfl)))
      (pss_cons (ps_if (pt_cmpR op_eq (pe_cd D_law_draw (hr.mono (by decide)) (by rfl) pass0 (pa_cons (pv 0) (pa_cons pe_int pa_nil))) pe_int (nomark _)) (pss_one (ps_ret (pe_tup (pa_cons (pv 2) (pa_cons (pe_op op_mul pe_int (pe_cd D_law_draw (hr.mono (by decide)) (by rfl) pass0 (pa_cons (pv 0) (pa_cons pe_int pa_nil)))) (pa_cons pe_int pa_nil)))))) pss_nil)
      (pss_cons (ps_set (i := 3) sc_law_place.nd rfl (by first | exact Or.inl rfl | exact Or.inr rfl) (pe_callB (call_min2R rfl) (by rfl) z_min (by decide +kernel) (pa_cons pe_int (pa_cons (pe_op op_sub (pv 1) (pv 2)) pa_nil))))
      (pss_cons (ps_set (i := 4) sc_law_place.nd rfl (by first | exact Or.inl rfl | exact Or.inr rfl) (pe_ix (ix_listK (K := K)) (pe_lst (pa_cons pe_int (pa_cons (pv 3) (pa_cons (pe_op op_add pe_int (pe_cd D_law_draw (hr.mono (by decide)) (by rfl) pass0 (pa_cons (pv 0) (pa_cons (pv 3) pa_nil)))) (pa_cons (pe_op op_add pe_int (pe_cd D_law_draw (hr.mono (by decide)) (by rfl) pass0 (pa_cons (pv 0) (pa_cons (pe_callB (call_min2R rfl) (by rfl) z_min (by decide +kernel) (pa_cons (pv 3) (pa_cons pe_int pa_nil))) pa_nil)))) pa_nil))))) (pe_cd D_law_draw (hr.mono (by decide)) (by rfl) pass0 (pa_cons (pv 0) (pa_cons pe_int pa_nil))) (fun _ _ => rfl)))
      (pss_one (ps_ret (pe_tup (pa_cons (pv 2) (pa_cons pe_int (pa_cons (pe_op op_mul pe_int (pv 4)) pa_nil)))))))))), ?_⟩
    walk_at "rd"
    refine ⟨t, W, rfl, d0, by omega, by omega, fun v1 H1 a1 b1 o1 d1 => ?_⟩
    walk_at "rd"
    refine ⟨t, W, rfl, d1, by omega, by omega, fun v2 H2 a2 b2 o2 d2 => ?_⟩
    walk_at "rd"
    refine ⟨by decide, New.intro fun g H3 ng s3 h3 => ?_⟩
    have d3 := d2.same s3
    refine ⟨t, 4, rfl, d3, by decide, by decide, fun v4 H4 a4 b4 o4 d4 => ?_⟩
    walk_at "rd"
    have h4 := o4 _ _ (Ne.symm (d2.ne ng)) h3
    obtain ⟨z, hz, ez⟩ := pickI (xs := [0, W - 1, v1, v2]) a4 b4
    have hz1 : 0 ≤ z ∧ z < W := by
      simp only [List.mem_cons, List.not_mem_nil, or_false] at hz
      omega
    have O4 : Off t H H4 := ((o1.trans o2).trans (Off.of s3)).trans o4
    refine ⟨_, seq_of h4, _, ez, ?_⟩
    refine ⟨t, 3, rfl, d4, by decide, by decide, fun v5 H5 a5 b5 o5 d5 => ?_⟩
    walk_at "rd"
    refine ite2 (fun _ => ?_) (fun _ => ?_)
    · refine ⟨t, 4, rfl, d5, by decide, by decide, fun v6 H6 a6 b6 o6 d6 => ?_⟩
      walk_at "rd"
      exact ⟨.inl ⟨by decide, by decide⟩, by decide, New.intro fun p H7 np s7 h7 => q p H7 _ _ _ (noneD (O4.trans (o5.trans o6)) d0 d6 np) ((O4.trans (o5.trans o6)).trans (Off.of s7)) (d6.same s7) h7 (okP_tag hz1.1 a6 b6)⟩
    · have hM : 1 ≤ (if W - z < 64 then W - z else 64) ∧ (if W - z < 64 then W - z else 64) ≤ 64 := by
        split <;> omega
      generalize (if W - z < 64 then W - z else 64) = M at hM ⊢
      refine ⟨t, M, rfl, d5, by omega, by omega, fun v6 H6 a6 b6 o6 d6 => ?_⟩
      walk_at "rd"
      have hN : 1 ≤ (if 4 < M then 4 else M) ∧ (if 4 < M then 4 else M) ≤ 4 := by
        split <;> omega
      generalize (if 4 < M then 4 else M) = N at hN ⊢
      refine ⟨t, N, rfl, d6, by omega, by omega, fun v7 H7 a7 b7 o7 d7 => ?_⟩
      walk_at "rd"
      refine ⟨by decide, New.intro fun u H8 nu s8 h8 => ?_⟩
      have d8 := d7.same s8
      refine ⟨t, 4, rfl, d8, by decide, by decide, fun v9 H9 a9 b9 o9 d9 => ?_⟩
      walk_at "rd"
      have h9 := o9 _ _ (Ne.symm (d7.ne nu)) h8
      obtain ⟨y, hy, ey⟩ := pickI (xs := [1, M, 1 + v6, 1 + v7]) a9 b9
      have hy1 : 1 ≤ y ∧ y ≤ 64 := by
        simp only [List.mem_cons, List.not_mem_nil, or_false] at hy
        omega
      have O9 : Off t H H9 := ((O4.trans (o5.trans (o6.trans o7))).trans (Off.of s8)).trans o9
      exact ⟨_, seq_of h9, _, ey, _, rfl, .inl ⟨by decide, by decide⟩, by decide, New.intro fun p H10 np s10 h10 => q p H10 _ _ _ (noneD O9 d0 d9 np) (O9.trans (Off.of s10)) (d9.same s10) h10 (okP_whole hz1.1 hy1.1 hy1.2)⟩
theorem ok_bits {f : Addr} {fd : FuncData} (F : Fun K "_law_bits" "_law_bits" s_law_bits f fd) (z_range : mg "range" = none) : FnOk P w K mg base CX0 1 f fd ["_law_place_here"] (spBits K) := by
  refine F.ok sc_law_bits (fun vs H Q E h => ?_) (fun cdv A outer s H vs Q E hr h => ?_)
  · obtain ⟨p, c, s, b, rfl, _⟩ := h
    rfl
  · obtain ⟨p, c, s, b, rfl, hp, ho, q⟩ := h
    refine ⟨_, (pss_one (ps_ret (pe_lc (own := [("_law_k", 1)]) (g := gName 1) (tt := tYes) rfl sc_law_bits.nd (pi_rangeL1 (by rfl) z_range (pa_cons (pe_ix (ix_tupK (K := K)) (pv 0) pe_int (fun _ _ => rfl)) pa_nil)) (blkOk_by (own := [("_law_k", 1)]) (N := ["_law_place_here", "_law_k"]) (sc := defScope s_law_bits) (by decide +kernel)) (fun _ _ _ _ _ => pg_name (i := 1) sc_law_bits.nd rfl (Or.inl rfl)) (fun _ _ _ _ _ => pts_nil) (fun _ _ _ _ _ => (pe_op op_add (pe_op op_add (pe_op op_mul pe_int (pe_ix (ix_tupK (K := K)) (pv 0) pe_int (fun _ _ => rfl))) (pe_ix (ix_tupK (K := K)) (pv 0) pe_int (fun _ _ => rfl))) (pv 1)))))), ?_⟩
    have hb := okP_last ho
    walk_at "rd"
    refine ⟨_, hp, _, rfl, _, rfl, Cmp.pureR (fun k => .int (8 * c + s + (k : Int))) (by omega) (fun _ => rfl) ?_ ?_⟩
    · intro i H2 R hi s2 hR
      walk_at "rd"
      refine ⟨_, Same.seqT s2 hp, _, rfl, _, rfl, .inl ⟨by decide, by decide⟩, _, Same.seqT s2 hp, _, rfl, _, rfl, ?_⟩
      rw [Int.zero_add]
      exact hR H2 (Same.refl H2)
    · intro l H2 nl s2 h2
      refine q l H2 nl s2 ?_
      rw [h2]
      unfold bitsR
      rw [List.map_map]
      rfl
theorem ok_moved {f : Addr} {fd : FuncData} (F : Fun K "_law_moved" "_law_moved" s_law_moved f fd) : FnOk P w K mg base CX0 1 f fd ["_law_place_here", "_law_by"] (spMoved K) := by
  refine F.ok sc_law_moved (fun vs H Q E h => ?_) (fun cdv A outer s H vs Q E hr h => ?_)
  · obtain ⟨p, c, s, b, y, rfl, _⟩ := h
    rfl
  · obtain ⟨p, c, s, b, y, rfl, hp, q⟩ := h
    refine ⟨_, (pss_one (ps_ret (pe_tup (pa_cons (pe_op op_add (pe_ix (ix_tupK (K := K)) (pv 0) pe_int (fun _ _ => rfl)) (pv 1)) (pa_cons (pe_ix (ix_tupK (K := K)) (pv 0) pe_int (fun _ _ => rfl)) (pa_cons (pe_ix (ix_tupK (K := K)) (pv 0) pe_int (fun _ _ => rfl)) pa_nil)))))), ?_⟩
    walk_at "rd"
    refine ⟨_, hp, _, rfl, _, rfl, _, hp, _, rfl, _, hp, _, rfl, by decide, New.intro fun t H1 nt s1 h1 => q t H1 nt s1 h1⟩
theorem ok_cells {f : Addr} {fd : FuncData} (F : Fun K "_law_cells" "_law_cells" s_law_cells f fd) (D_law_bits : Dn P w K mg base CX0 1 "_law_bits" ["_law_place_here"] (spBits K)) : FnOk P w K mg base CX0 2 f fd ["_law_place_here"] (spCells K) := by
  refine F.ok sc_law_cells (fun vs H Q E h => ?_) (fun cdv A outer s H vs Q E hr h => ?_)
  · obtain ⟨p, c, s, b, rfl, _⟩ := h
    rfl
  · obtain ⟨p, c, s, b, rfl, hp, ho, q⟩ := h
    refine ⟨_, (pss_cons (ps_set (i := 1) sc_law_cells.nd rfl (by first | exact Or.inl rfl | exact Or.inr rfl) (pe_lst pa_nil))
      (pss_cons (ps_for PassesOwn.never rfl (pi_listK (pe_cd D_law_bits (hr.mono (by decide)) (by rfl) pass0 (pa_cons (pv 0) pa_nil)) (K := K)) (pg_name (i := 2) sc_law_cells.nd rfl (by first | exact Or.inl rfl | exact Or.inr rfl)) (pss_one (ps_if (pt_cmpR (op_notIn_seqK (K := K)) (pe_op op_fdivW (pv 2) pe_int) (pv 1) (by rfl)) (pss_one (ps_expr (pe_bmK (K := K) PySem.F.plainAttrs_list PySem.F.slot_list_append PySem.F.type_list_append mt_append (pv 1) (pa_cons (pe_op op_fdivW (pv 2) pe_int) pa_nil)))) pss_nil)))
      (pss_one (ps_ret (pv 1))))), ?_⟩
    have hb := okP_last ho
    walk_at "rd"
    refine ⟨by decide, New.intro fun l H1 nl s1 h1 => ⟨p, c, s, b, rfl, Same.seqT s1 hp, ho, fun r H2 nr s2 h2 => ?_⟩⟩
    have hL : (bitsR c s b).length = b.toNat := by
      unfold bitsR
      rw [List.length_map, List.length_range]
    walk_at "rd"
    refine ⟨⟨_, seq_of h2⟩, Loop.list (xs := (bitsR c s b).map V.int) (fun i σ H3 => ∃ (x : Option V), σ = [some (.ref p), some (.ref l), x] ∧ Off l H2 H3 ∧ H3 l = some (.lst ((upTo c (cnt s i)).map V.int))) ⟨none, rfl, Off.refl H2, s2 _ _ h1⟩ ?_ ?_ ?_⟩
    · rintro i σ H3 _ ⟨x, rfl, o3, h3⟩
      exact seq_of (o3 _ _ (fun e => by subst e; rw [h1] at nr; cases nr) h2)
    · rintro i x σ H3 hx ⟨y, rfl, o3, h3⟩
      obtain ⟨z, hz, rfl⟩ := int_at hx
      obtain ⟨ez, hib⟩ := bits_at hz
      walk_at "rd"
      have ed : z / 8 = c + (s + (i : Int)) / 8 := by omega
      have hm := cnt_step hb.2.1 hb.2.2.1 i
      have hcl : cnt s i ≤ 1000 := by
        unfold cnt
        split <;> omega
      refine ⟨⟨by decide, by decide⟩, _, .inl (seq_of h3), rfl, flat_ints _, ?_⟩
      rw [inV_int]
      by_cases hin : z / 8 ∈ upTo c (cnt s i)
      · rw [decide_eq_true hin]
        have := mem_upTo.mp hin
        refine iteN (by decide) ⟨o3, ?_⟩
        rw [h3, (hm.resolve_right (by omega)).2]
      · rw [decide_eq_false hin]
        have hr := hm.resolve_left fun h => hin (mem_upTo.mpr (by omega))
        refine iteP rfl ⟨tyv_list (seq_of h3), ⟨by decide, by decide⟩, _, h3, sz100l (by rw [List.length_map, upTo_len]; omega), Upd.intro fun H4 o4 h4 => ⟨o3.trans o4, ?_⟩⟩
        rw [h4, hr.2, upTo_succ, List.map_append, ← hr.1, ed]
        rfl
    · rintro σ H3 ⟨y, rfl, o3, h3⟩
      walk_at "rd"
      refine q l H3 nl (Same.off (s1.trans s2) nl o3) ?_
      rw [h3]
      have e : upTo c (cnt s ((bitsR c s b).map V.int).length) = cellsR c s b := by
        rw [List.length_map, hL]
        unfold upTo cellsR lastC cnt
        rw [if_neg (by omega)]
        congr 2
        omega
      rw [e]
theorem ok_told {f : Addr} {fd : FuncData} (F : Fun K "_law_told" "_law_told" s_law_told f fd) (z_isinstance : mg "isinstance" = none) (z_list : mg "list" = none) (z_all : mg "all" = none) (D_cells_in : Dn P w K mg base CX0 4 "cells_in" ["place"] (spCellsIn K)) (D_law_cells : Dn P w K mg base CX0 2 "_law_cells" ["_law_place_here"] (spCells K)) (D_law_whole : Dn P w K mg base CX0 1 "_law_whole" ["_law_found"] (spLWhole K)) (D_need_place : Dn P w K mg base CX0 3 "need_place" ["thing"] (spNeedOk K)) : FnOk P w K mg base CX0 5 f fd ["_law_place_here"] (spTold K) := by
  refine F.ok sc_law_told (fun vs H Q E h => ?_) (fun cdv A outer s H vs Q E hr h => ?_)
  · obtain ⟨p, c, s, b, rfl, _⟩ := h
    rfl
  · obtain ⟨p, c, s, b, rfl, hp, ho, q⟩ := h
    refine ⟨_, (pss_cons (ps_set (i := 1) sc_law_told.nd rfl (by first | exact Or.inl rfl | exact Or.inr rfl) (pe_cd D_cells_in (hr.mono (by decide)) (by rfl) pass0 (pa_cons (pv 0) pa_nil)))
      (pss_cons (ps_if (PW.pt (pw_or (pt_not (pt_val (pe_callB (call_isiK' (K := K)) (by rfl) z_isinstance (by decide +kernel) (pa_cons (pv 1) (pa_cons (pe_bltn (v := V.ty "list") (u := Value.type "list") (by rfl) z_list (by decide +kernel) rfl) pa_nil))))) (pw_or (pt_cmpR (op_neDK hr.units (K := K)) (pv 1) (pe_cd D_law_cells (hr.mono (by decide)) (by rfl) pass0 (pa_cons (pv 0) pa_nil)) (nomark _)) (pw_or1 (pt_not (pt_val (pe_callB (cr_allK rfl (K := K)) (by rfl) z_all (by decide +kernel) (pa_cons (pe_lc (own := [("_law_cell_here", 2)]) (g := gName 2) (tt := tYes) rfl sc_law_told.nd (pi_listK (pv 1) (K := K)) (blkOk_by (own := [("_law_cell_here", 2)]) (N := ["_law_place_here", "_law_found", "_law_cell_here"]) (sc := defScope s_law_told) (by decide +kernel)) (fun _ _ _ _ _ => pg_name (i := 2) sc_law_told.nd rfl (Or.inl rfl)) (fun _ _ _ _ _ => pts_nil) (fun _ _ _ _ _ => (pe_cd D_law_whole (hr.mono (by decide)) (by rfl) pass0 (pa_cons (pv 2) pa_nil)))) pa_nil)))))))) (pss_one (ps_ret pe_bl)) pss_nil)
      (pss_cons (ps_expr (pe_bmK (K := K) PySem.F.plainAttrs_list PySem.F.slot_list_append PySem.F.type_list_append mt_append (pv 1) (pa_cons pe_int pa_nil)))
      (pss_one (ps_ret (pe_and (pe_cmpR (op_eqDK hr.units (K := K)) (pe_cd D_cells_in (hr.mono (by decide)) (by rfl) pass0 (pa_cons (pv 0) pa_nil)) (pe_slice (sl_listK (K := K)) (pv 1) po_none (po_some (pe_un un_neg pe_int))) (nomark _)) (pe_one (pe_cmpR op_isN (pe_cd D_need_place (hr.mono (by decide)) (by rfl) pass0 (pa_cons (pv 0) pa_nil)) pe_non (nomark _))))))))), ?_⟩
    have hb := okP_last ho
    walk_at "rd"
    refine ⟨p, c, s, b, rfl, hp, ho, fun l H1 nl s1 h1 => ?_⟩
    walk_at "rd"
    refine isi (b := true) (ty_lst h1) (by decide +kernel) (iteN (by decide) ⟨p, c, s, b, rfl, Same.seqT s1 hp, ho, fun r H2 nr s2 h2 => ?_⟩)
    have P2 := s2 _ _ h1
    have hlen : (cellsR c s b).length ≤ 1000 := by
      unfold cellsR
      rw [List.length_map, List.length_range]
      omega
    show rNeD K (V.ref l) (V.ref r) H2 _
    refine ne_ints (seq_of P2) (seq_of h2) ⟨_, rfl, iteN (by rw [decide_eq_true rfl]; decide) ⟨⟨_, seq_of P2⟩, Cmp.pureL (fun _ => .bl true) (seq_of P2) (by rw [List.length_map]; omega) (fun _ => rfl) ?_ ?_⟩⟩
    · rintro x H3 R hx s3 hR
      obtain ⟨z, hz, rfl⟩ := List.mem_map.mp hx
      walk_at "rd"
      exact ⟨_, _, rfl, thg_int, hR H3 (Same.refl H3)⟩
    · rintro d H3 nd s3 h3
      walk_at "rd"
      have P3 := s3 _ _ P2
      refine ⟨_, sq_true h3, iteN (by rw [all_true]; decide) ⟨tyv_list (seq_of P3), _, P3, sz100l (by rw [List.length_map]; omega), Upd.intro fun H4 o4 h4 => ?_⟩⟩
      have S3 := s1.trans (s2.trans s3)
      have S4 : Same H H4 := Same.off S3 nl o4
      refine ⟨p, c, s, b, rfl, Same.seqT S4 hp, ho, fun u H5 nu s5 h5 => ⟨_, seq_of (s5 _ _ h4), New.intro fun v H6 nv s6 h6 => ?_⟩⟩
      rw [cut_init] at h6
      refine eq_ints (seq_of (s6 _ _ h5)) (seq_of h6) ⟨_, rfl, iteP (decide_eq_true rfl) ⟨p, c, s, b, rfl, Same.seqT (S4.trans (s5.trans s6)) hp, ho, ?_⟩⟩
      exact q H6 (S4.trans (s5.trans s6))
theorem ok_lshares {f : Addr} {fd : FuncData} (F : Fun K "_law_shares" "_law_shares" s_law_shares f fd) (z_isinstance : mg "isinstance" = none) (z_bool : mg "bool" = none) (D_law_bits : Dn P w K mg base CX0 1 "_law_bits" ["_law_place_here"] (spBits K)) (D_shares : Dn P w K mg base CX0 4 "shares" ["one", "other"] (spShares K)) : FnOk P w K mg base CX0 5 f fd ["_law_one", "_law_other_here"] (spLShares K) := by
  refine F.ok sc_law_shares (fun vs H Q E h => ?_) (fun cdv A outer s H vs Q E hr h => ?_)
  · obtain ⟨p, q, c, s, b, c', s', b', rfl, _⟩ := h
    rfl
  · obtain ⟨p, q, c, s, b, c', s', b', rfl, hp, hq, ho, ho', Q0⟩ := h
    refine ⟨_, (pss_cons (ps_set (i := 2) sc_law_shares.nd rfl (by first | exact Or.inl rfl | exact Or.inr rfl) (pe_cd D_law_bits (hr.mono (by decide)) (by rfl) pass0 (pa_cons (pv 0) pa_nil)))
      (pss_cons (ps_set (i := 3) sc_law_shares.nd rfl (by first | exact Or.inl rfl | exact Or.inr rfl) (pe_cmpR (op_neDK hr.units (K := K)) (pe_lc (own := [("_law_bit", 4)]) (g := gName 4) rfl sc_law_shares.nd (pi_listK (pe_cd D_law_bits (hr.mono (by decide)) (by rfl) pass0 (pa_cons (pv 1) pa_nil)) (K := K)) (blkOk_by (own := [("_law_bit", 4)]) (N := ["_law_one", "_law_other_here", "_law_first", "_law_due", "_law_bit", "_law_found"]) (sc := defScope s_law_shares) (by decide +kernel)) (fun _ _ _ _ _ => pg_name (i := 4) sc_law_shares.nd rfl (Or.inl rfl)) (fun _ _ _ _ _ => (pts_one (pt_chain op_le op_le (pe_ix (ix_listK (K := K)) (pv 2) pe_int (fun _ _ => rfl)) (pv 4) (pe_ix (ix_listK (K := K)) (pv 2) (pe_un un_neg pe_int) (fun _ _ => rfl))))) (fun _ _ _ _ _ => (pv 4))) (pe_lst pa_nil) (nomark _)))
      (pss_cons (ps_set (i := 5) sc_law_shares.nd rfl (by first | exact Or.inl rfl | exact Or.inr rfl) (pe_cd D_shares (hr.mono (by decide)) (by rfl) pass0 (pa_cons (pv 0) (pa_cons (pv 1) pa_nil))))
      (pss_one (ps_ret (pe_and (pe_callB (call_isiK' (K := K)) (by rfl) z_isinstance (by decide +kernel) (pa_cons (pv 5) (pa_cons (pe_bltn (v := V.ty "bool") (u := Value.type "bool") (by rfl) z_bool (by decide +kernel) rfl) pa_nil))) (pe_and (pe_cmpR op_eq (pv 5) (pv 3) (nomark _)) (pe_one (pe_cmpR op_eq (pe_cd D_shares (hr.mono (by decide)) (by rfl) pass0 (pa_cons (pv 1) (pa_cons (pv 0) pa_nil))) (pv 3) (nomark _)))))))))), ?_⟩
    walk_at "rd"
    refine ⟨p, c, s, b, rfl, hp, ho, fun l H1 nl s1 h1 => ?_⟩
    walk_at "rd"
    refine ⟨q, c', s', b', rfl, Same.seqT s1 hq, ho', fun r H2 nr s2 h2 => ?_⟩
    walk_at "rd"
    have P2 := s2 _ _ h1
    have hbL := okP_last ho
    have hbL' := okP_last ho'
    have hL : (bitsR c s b).length = b.toNat := by
      unfold bitsR
      rw [List.length_map, List.length_range]
    have hL' : (bitsR c' s' b').length = b'.toNat := by
      unfold bitsR
      rw [List.length_map, List.length_range]
    have at0 : atI ((bitsR c s b).map V.int) 0 = some (.int (8 * c + s)) := at_of (j := 0) (by decide) (at_int (by
      unfold bitsR
      rw [List.getElem?_map, List.getElem?_range (by omega)]
      show some (8 * c + s + ((0 : Nat) : Int)) = _
      rw [show ((0 : Nat) : Int) = 0 from rfl, Int.add_zero]))
    have at1 : atI ((bitsR c s b).map V.int) (-1) = some (.int (8 * c + s + b - 1)) := last_int (by
      rw [hL]
      unfold bitsR
      rw [List.getElem?_map, List.getElem?_range (by omega)]
      show some (8 * c + s + ((b.toNat - 1 : Nat) : Int)) = _
      congr 1
      omega)
    refine ⟨⟨_, seq_of h2⟩, Cmp.pureF (fun x => match x with | .int z => decide (8 * c + s ≤ z) && decide (z ≤ 8 * c + s + b - 1) | _ => false) id (seq_of h2) (by rw [List.length_map]; omega) (fun _ => rfl) ?_ ?_ ?_⟩
    · rintro x H3 R hx s3 hR
      obtain ⟨z, hz, rfl⟩ := List.mem_map.mp hx
      have P3 := s3 _ _ P2
      have r := hR H3 (Same.refl H3)
      walk_at "rd"
      refine ⟨_, seq_of P3, _, at0, _, rfl, ?_⟩
      have r2 : R (decide (8 * c + s ≤ z) && decide (z ≤ 8 * c + s + b - 1)) H3 := r
      refine ite2 (fun h => ?_) (fun h => ?_)
      · rw [decide_eq_true h, Bool.true_and] at r2
        exact ⟨_, seq_of P3, _, at1, _, rfl, r2⟩
      · rw [decide_eq_false h, Bool.false_and] at r2
        exact r2
    · rintro x H3 R hx _ s3 hR
      exact ⟨_, rfl, hR H3 (Same.refl H3)⟩
    · intro d H3 nd s3 h3
      refine ⟨by decide, New.intro fun e H4 ne s4 h4 => ?_⟩
      rw [List.map_id, List.filter_map] at h3
      have T4 : Same H H4 := s1.trans (s2.trans (s3.trans s4))
      refine ne_ints (ms := []) (seq_of (s4 _ _ h3)) (seq_of h4) ?_
      have eq := shares_bits (c := c) (s := s) (c' := c') (s' := s') hbL.2.2.2.1 hbL'.2.2.2.1
      show spShares K [V.ref p, V.ref q] H4 _ E0
      refine ⟨p, q, c, s, b, c', s', b', rfl, Same.seqT T4 hp, Same.seqT T4 hq, ho, ho', ?_⟩
      refine isi (b := true) (.base (.bl _)) (by decide +kernel) (iteP rfl ⟨rfl, iteP (congrArg V.bl eq.symm) ⟨q, p, c', s', b', c, s, b, rfl, Same.seqT T4 hq, Same.seqT T4 hp, ho', ho, rfl, ?_⟩⟩)
      rw [decide_eq_true (congrArg V.bl ((shares_comm c' s' b' c s b).trans eq.symm))]
      exact Q0 H4 T4
theorem ok_other {f : Addr} {fd : FuncData} (F : Fun K "_law_other" "_law_other" s_law_other f fd) (D_law_draw : Dn P w K mg base CX0 1 "_law_draw" ["_law_state", "_law_many"] spDraw) (D_law_place : Dn P w K mg base CX0 2 "_law_place" ["_law_state", "_law_wide"] spPlace) : FnOk P w K mg base CX0 3 f fd ["_law_state", "_law_one", "_law_wide"] (spOther K) := by
  refine F.ok sc_law_other (fun vs H Q E h => ?_) (fun cdv A outer s H vs Q E hr h => ?_)
  · obtain ⟨t, p, c, s, b, W, rfl, _⟩ := h
    rfl
  · obtain ⟨t, p, c, s, b, W, rfl, d0, hp, ho, hW, hW2, q⟩ := h
    refine ⟨_, (pss_cons (ps_set (i := 3) sc_law_other.nd rfl (by first | exact Or.inl rfl | exact Or.inr rfl) (pe_op op_add (pe_ix (ix_tupK (K := K)) (pv 1) pe_int (fun _ _ => rfl)) (pe_op op_fdivW (pe_op op_sub (pe_op op_add (pe_ix (ix_tupK (K := K)) (pv 1) pe_int (fun _ _ => rfl)) (pe_ix (ix_tupK (K := K)) (pv 1) pe_int (fun _ _ => rfl))) pe_int) pe_int)))
      (pss_cons (ps_set (i := 4) sc_law_other.nd rfl (by first | exact Or.inl rfl | exact Or.inr rfl) (pe_cd D_law_draw (hr.mono (by decide)) (by rfl) pass0 (pa_cons (pv 0) (pa_cons pe_int pa_nil))))
      (pss_cons (ps_if (pt_cmpR op_eq (pv 4) pe_int (nomark _)) (pss_one (ps_ret (pv 1))) pss_nil)
      (pss_cons (ps_if (pt_cmpR op_eq (pv 4) pe_int (nomark _)) (pss_one (ps_ret (pe_tup (pa_cons (pe_op op_add (pv 3) (pe_cd D_law_draw (hr.mono (by decide)) (by rfl) pass0 (pa_cons (pv 0) (pa_cons pe_int pa_nil)))) (pa_cons pe_int (pa_cons (pe_op op_mul pe_int (pe_op op_add pe_int (pe_cd D_law_draw (hr.mono (by decide)) (by rfl) pass0 (pa_cons (pv 0) (pa_cons pe_int pa_nil))))) pa_nil)))))) pss_nil)
      (pss_cons (ps_if (pt_cmpR op_eq (pv 4) pe_int (nomark _)) (pss_one (ps_ret (pe_tup (pa_cons (pe_op op_add (pe_ix (ix_tupK (K := K)) (pv 1) pe_int (fun _ _ => rfl)) (pe_cd D_law_draw (hr.mono (by decide)) (by rfl) pass0 (pa_cons (pv 0) (pa_cons (pe_op op_add (pe_op op_sub (pv 3) (pe_ix (ix_tupK (K := K)) (pv 1) pe_int (fun _ _ => rfl))) pe_int) pa_nil)))) (pa_cons (pe_op op_mul pe_int (pe_cd D_law_draw (hr.mono (by decide)) (by rfl) pass0 (pa_cons (pv 0) (pa_cons pe_int pa_nil)))) (pa_cons pe_int pa_nil)))))) pss_nil)
      (pss_one (ps_ret (pe_cd D_law_place (hr.mono (by decide)) (by rfl) pass0 (pa_cons (pv 0) (pa_cons (pv 2) pa_nil)))))))))), ?_⟩
    have hb := okP_last ho
    walk_at "rd"
    refine ⟨_, hp, _, rfl, _, hp, _, rfl, _, hp, _, rfl, _, rfl, _, rfl, ⟨by decide, by decide⟩, _, rfl, t, 5, rfl, d0, by decide, by decide, fun v1 H1 a1 b1 o1 d1 => ?_⟩
    obtain ⟨r, n, k, hd0⟩ := id d0
    obtain ⟨r1, n1, k1, hd1⟩ := id d1
    have p1 := SqT.off o1 hd0 hp
    refine ⟨rfl, ite2 (fun _ => q p H1 _ _ _ o1 d1 p1 ho) (fun _ => ⟨rfl, ite2 (fun _ => ?_) (fun _ => ⟨rfl, ite2 (fun _ => ?_) (fun _ => ?_)⟩)⟩)⟩
    · refine ⟨t, 2, rfl, d1, by decide, by decide, fun v2 H2 a2 b2 o2 d2 => ⟨_, rfl, t, 3, rfl, d2, by decide, by decide, fun v3 H3 a3 b3 o3 d3 => ⟨_, rfl, .inl ⟨by decide, by decide⟩, by decide, New.intro fun u H4 nu s4 h4 => ?_⟩⟩⟩
      exact q u H4 _ _ _ ((o1.trans (o2.trans o3)).trans (Off.of s4)) (d3.same s4) (seqT_of h4) (okP_whole (by have := hb.2.2.2.2.2.1; unfold lastC at this; omega) (by omega) (by omega))
    · have hl := hb.2.2.2.2.2
      unfold lastC at hl
      refine ⟨_, p1, _, rfl, _, p1, _, rfl, _, rfl, t, _, rfl, d1, by omega, by omega, fun v2 H2 a2 b2 o2 d2 => ⟨_, rfl, _, rfl, t, 4, rfl, d2, by decide, by decide, fun v3 H3 a3 b3 o3 d3 => ⟨_, rfl, .inl ⟨by decide, by decide⟩, by decide, New.intro fun u H4 nu s4 h4 => ?_⟩⟩⟩
      exact q u H4 _ _ _ ((o1.trans (o2.trans o3)).trans (Off.of s4)) (d3.same s4) (seqT_of h4) (okP_tag (by omega) a3 b3)
    · refine ⟨t, W, rfl, d1, hW, hW2, fun u H2 c2 s2 b2 nu o2 d2 h2 ok2 => ?_⟩
      exact q u H2 _ _ _ (o1.trans o2) d2 (seqT_of h2) ok2
theorem ok_law {f : Addr} {fd : FuncData} (F : Fun K "law" "law" s_law f fd) (z_len : mg "len" = none) (z_max : mg "max" = none) (z_min : mg "min" = none) (z_range : mg "range" = none)
    (D_law_cell : Dn P w K mg base CX0 1 "_law_cell" ["_law_script", "_law_k"] (spCell K)) (D_law_begun : Dn P w K mg base CX0 1 "_law_begun" ["_law_cell_here"] spBegun) (D_law_draw : Dn P w K mg base CX0 1 "_law_draw" ["_law_state", "_law_many"] spDraw)
    (D_law_place : Dn P w K mg base CX0 2 "_law_place" ["_law_state", "_law_wide"] spPlace) (D_law_other : Dn P w K mg base CX0 3 "_law_other" ["_law_state", "_law_one", "_law_wide"] (spOther K)) (D_law_moved : Dn P w K mg base CX0 1 "_law_moved" ["_law_place_here", "_law_by"] (spMoved K)) (D_law_told : Dn P w K mg base CX0 5 "_law_told" ["_law_place_here"] (spTold K)) (D_law_shares : Dn P w K mg base CX0 5 "_law_shares" ["_law_one", "_law_other_here"] (spLShares K)) : FnOk P w K mg base CX0 6 f fd ["_law_script"] (spLaw K) := by
  refine F.ok sc_law (fun vs H Q E h => ?_) (fun cdv A outer s H vs Q E hr h => ?_)
  · obtain ⟨a, ns, rfl, _⟩ := h
    rfl
  · obtain ⟨a, ns, rfl, hS, hl, q⟩ := h
    refine ⟨_, (pss_cons (ps_for PassesOwn.never rfl (pi_rangeL1 (by rfl) z_range (pa_cons (pe_callB (call_max2R rfl) (by rfl) z_max (by decide +kernel) (pa_cons pe_int (pa_cons (pe_callB (call_min2R rfl) (by rfl) z_min (by decide +kernel) (pa_cons pe_int (pa_cons (pe_callB (call_lenR (K := K)) (by rfl) z_len (by decide +kernel) (pa_cons (pv 0) pa_nil)) pa_nil))) pa_nil))) pa_nil)) (pg_name (i := 1) sc_law.nd rfl (by first | exact Or.inl rfl | exact Or.inr rfl)) (pss_cons (ps_set (i := 2) sc_law.nd rfl (by first | exact Or.inl rfl | exact Or.inr rfl) (pe_cd D_law_begun (hr.mono (by decide)) (by rfl) pass0 (pa_cons (pe_cd D_law_cell (hr.mono (by decide)) (by rfl) pass0 (pa_cons (pv 0) (pa_cons (pv 1) pa_nil))) pa_nil)))
      (pss_cons (ps_set (i := 3) sc_law.nd rfl (by first | exact Or.inl rfl | exact Or.inr rfl) (pe_ix (ix_listK (K := K)) (pe_lst (pa_cons pe_int (pa_cons pe_int (pa_cons pe_int (pa_cons pe_int pa_nil))))) (pe_cd D_law_draw (hr.mono (by decide)) (by rfl) pass0 (pa_cons (pv 2) (pa_cons pe_int pa_nil))) (fun _ _ => rfl)))
      (pss_cons (ps_set (i := 4) sc_law.nd rfl (by first | exact Or.inl rfl | exact Or.inr rfl) (pe_ix (ix_listK (K := K)) (pe_lst (pa_cons pe_int (pa_cons pe_int (pa_cons (pe_op op_pow pe_int pe_int) (pa_cons (pe_cd D_law_draw (hr.mono (by decide)) (by rfl) pass0 (pa_cons (pv 2) (pa_cons pe_int pa_nil))) pa_nil))))) (pe_cd D_law_draw (hr.mono (by decide)) (by rfl) pass0 (pa_cons (pv 2) (pa_cons pe_int pa_nil))) (fun _ _ => rfl)))
      (pss_cons (ps_set (i := 5) sc_law.nd rfl (by first | exact Or.inl rfl | exact Or.inr rfl) (pe_cd D_law_place (hr.mono (by decide)) (by rfl) pass0 (pa_cons (pv 2) (pa_cons (pv 3) pa_nil))))
      (pss_cons (ps_set (i := 6) sc_law.nd rfl (by first | exact Or.inl rfl | exact Or.inr rfl) (pe_cd D_law_moved (hr.mono (by decide)) (by rfl) pass0 (pa_cons (pe_cd D_law_other (hr.mono (by decide)) (by rfl) pass0 (pa_cons (pv 2) (pa_cons (pv 5) (pa_cons (pv 3) pa_nil)))) (pa_cons (pv 4) pa_nil))))
      (pss_cons (ps_set (i := 5) sc_law.nd rfl (by first | exact Or.inl rfl | exact Or.inr rfl) (pe_cd D_law_moved (hr.mono (by decide)) (by rfl) pass0 (pa_cons (pv 5) (pa_cons (pv 4) pa_nil))))
      (pss_cons (ps_if (PW.pt (pw_or (pt_not (pt_val (pe_cd D_law_told (hr.mono (by decide)) (by rfl) pass0 (pa_cons (pv 5) pa_nil)))) (pw_or (pt_not (pt_val (pe_cd D_law_told (hr.mono (by decide)) (by rfl) pass0 (pa_cons (pv 6) pa_nil)))) (pw_or1 (pt_not (pt_val (pe_cd D_law_shares (hr.mono (by decide)) (by rfl) pass0 (pa_cons (pv 5) (pa_cons (pv 6) pa_nil))))))))) (pss_one (ps_ret pe_bl)) pss_nil)
      (pss_cons (ps_if (PW.pt (pw_or (pt_not (pt_val (pe_cd D_law_shares (hr.mono (by decide)) (by rfl) pass0 (pa_cons (pv 5) (pa_cons (pv 5) pa_nil))))) (pw_or1 (pt_not (pt_val (pe_cd D_law_shares (hr.mono (by decide)) (by rfl) pass0 (pa_cons (pv 6) (pa_cons (pe_cd D_law_moved (hr.mono (by decide)) (by rfl) pass0 (pa_cons (pv 6) (pa_cons pe_int pa_nil))) pa_nil)))))))) (pss_one (ps_ret pe_bl)) pss_nil)
      (pss_one (ps_if (PW.pt (pw_and (pt_cmpR op_eq (pe_cd D_law_draw (hr.mono (by decide)) (by rfl) pass0 (pa_cons (pv 2) (pa_cons pe_int pa_nil))) pe_int (nomark _)) (pw_and1 (pt_not (pt_val (pe_cd D_law_shares (hr.mono (by decide)) (by rfl) pass0 (pa_cons (pe_cd D_law_place (hr.mono (by decide)) (by rfl) pass0 (pa_cons (pv 2) (pa_cons (pv 3) pa_nil))) (pa_cons (pv 5) pa_nil)))))))) (pss_one (ps_ret pe_bl)) pss_nil)))))))))))
      (pss_one (ps_ret pe_bl))), ?_⟩
    walk_at "rd"
    have hb : ∀ L : Int, 0 ≤ L → 1 ≤ (if (if L < 12 then L else 12) > 1 then if L < 12 then L else 12 else 1) ∧ (if (if L < 12 then L else 12) > 1 then if L < 12 then L else 12 else 1) ≤ 12 := fun L h => by
      split <;> split <;> omega
    obtain ⟨b1, b2⟩ := hb ((ns.map V.int).length : Int) (Int.natCast_nonneg _)
    refine ⟨_, .inl hS, ?_⟩
    generalize (if (if ((ns.map V.int).length : Int) < 12 then ((ns.map V.int).length : Int) else 12) > 1 then if ((ns.map V.int).length : Int) < 12 then ((ns.map V.int).length : Int) else 12 else 1) = M at b1 b2 ⊢
    refine Loop.range (fun i σ H1 => ∃ x1 x2 x3 x4 x5 x6, σ = [some (.ref a), x1, x2, x3, x4, x5, x6] ∧ Same H H1) ⟨none, none, none, none, none, none, rfl, Same.refl H⟩ ?_ ?_
    · rintro i σ H1 hi ⟨x1, x2, x3, x4, x5, x6, rfl, s1⟩
      walk_at "rd"
      refine ⟨a, ns, _, rfl, s1.seq hS, by omega, by omega, hl, fun z => ?_⟩
      walk_at "rd"
      refine ⟨z, rfl, fun t H2 nt s2 d2 => ?_⟩
      walk_at "rd"
      refine ⟨by decide, New.intro fun g H3 ng s3 h3 => ?_⟩
      have d3 := d2.same s3
      refine ⟨t, 4, rfl, d3, by decide, by decide, fun v4 H4 a4 b4 o4 d4 => ?_⟩
      walk_at "rd"
      have h4 := o4 _ _ (Ne.symm (d2.ne ng)) h3
      obtain ⟨W, hW, eW⟩ := pickI (xs := [3, 12, 130, 8192]) a4 b4
      have hW1 : 1 ≤ W ∧ W ≤ 10000 := by
        simp only [List.mem_cons, List.not_mem_nil, or_false] at hW
        omega
      refine ⟨_, seq_of h4, _, eW, ?_⟩
      have T2 := s1.trans s2
      have N2 := s1.free nt
      have T4 : Same H H4 := Same.off T2 N2 ((Off.of s3).trans o4)
      refine ⟨⟨by decide, by decide, by decide⟩, t, 1000003, rfl, d4, by decide, by decide, fun v5 H5 a5 b5 o5 d5 => ?_⟩
      walk_at "rd"
      refine ⟨by decide, New.intro fun g2 H6 ng2 s6 h6 => ?_⟩
      have d6 := d5.same s6
      refine ⟨t, 4, rfl, d6, by decide, by decide, fun v7 H7 a7 b7 o7 d7 => ?_⟩
      walk_at "rd"
      have h7 := o7 _ _ (Ne.symm (d5.ne ng2)) h6
      obtain ⟨y, hy, ey⟩ := pickI (xs := [0, 0, 10 ^ (29 : Int).toNat, v5]) a7 b7
      have hy1 : 0 ≤ y := by
        simp only [List.mem_cons, List.not_mem_nil, or_false] at hy
        rcases hy with e | e | e | e
        · omega
        · omega
        · rw [e]
          decide
        · omega
      refine ⟨_, seq_of h7, _, ey, ?_⟩
      have T7 : Same H H7 := Same.off T4 N2 (o5.trans ((Off.of s6).trans o7))
      refine ⟨t, W, rfl, d7, hW1.1, hW1.2, fun p H8 c s b np o8 d8 h8 ok8 => ?_⟩
      walk_at "rd"
      have T8 : Same H H8 := Same.off T7 N2 o8
      refine ⟨t, p, c, s, b, W, rfl, d8, seqT_of h8, ok8, hW1.1, hW1.2, fun p' H9 c' s' b' o9 d9 h9 ok9 => ?_⟩
      have T9 : Same H H9 := Same.off T8 N2 o9
      obtain ⟨r8, n8, k8, hd8⟩ := id d8
      have p9 := SqT.off (K := K) o9 hd8 (seqT_of h8)
      refine ⟨p', c', s', b', y, rfl, h9, fun u Ha nu sa hu => ⟨p, c, s, b, y, rfl, Same.seqT sa p9, fun w Hb nw sb hw => ?_⟩⟩
      have U := seqT_of (K := K) (sb _ _ hu)
      have W' := seqT_of (K := K) hw
      have okU := okP_move ok9 hy1
      have okW := okP_move ok8 hy1
      refine ⟨w, _, _, _, rfl, W', okW, fun Hc sc => ⟨_, rfl, iteN (by decide) ⟨u, _, _, _, rfl, Same.seqT sc U, okU, fun Hd sd => ⟨_, rfl, iteN (by decide) ?_⟩⟩⟩⟩
      have scd := sc.trans sd
      refine ⟨w, u, _, _, _, _, _, _, rfl, Same.seqT scd W', Same.seqT scd U, okW, okU, fun He se => ⟨_, rfl, iteN (by decide) ?_⟩⟩
      have sce := scd.trans se
      refine ⟨w, w, _, _, _, _, _, _, rfl, Same.seqT sce W', Same.seqT sce W', okW, okW, fun Hf sf => ⟨_, rfl, iteN (by decide) ?_⟩⟩
      have scf := sce.trans sf
      refine ⟨u, _, _, _, 1, rfl, Same.seqT scf U, fun v Hg nv sg hv => ?_⟩
      have scg := scf.trans sg
      refine ⟨u, v, _, _, _, _, _, _, rfl, Same.seqT scg U, seqT_of hv, okU, okP_move okU (by decide), fun Hh sh => ⟨_, rfl, iteN (by decide) ?_⟩⟩
      have sah := (sa.trans sb).trans (scg.trans sh)
      have W2 := Same.seqT (scg.trans sh) W'
      refine ⟨t, 2, rfl, d9.same sah, by decide, by decide, fun v2 Hi a2 b2 oi di => ⟨rfl, ite2 (fun _ => ?_) (fun _ => Same.off (T9.trans sah) N2 oi)⟩⟩
      refine ⟨t, W, rfl, di, hW1.1, hW1.2, fun r Hj c2 s2 b2 nr oj dj hr okr => ?_⟩
      obtain ⟨r9, n9, k9, hd9⟩ := d9.same sah
      refine ⟨r, w, _, _, _, _, _, _, rfl, seqT_of hr, SqT.off (oi.trans oj) hd9 W2, okr, okW, fun Hk sk => ⟨_, rfl, iteN (by decide) ?_⟩⟩
      exact (Same.off (T9.trans sah) N2 (oi.trans oj)).trans sk
    · rintro σ H1 ⟨x1, x2, x3, x4, x5, x6, rfl, s1⟩
      walk_at "rd"
      exact q H1
end
theorem all_mk {l : PySem.W.OpenLaw} {w : World} {K : PySem.W.Frag} {h : Heap} {mg : Str → Option Value} {fa f_law_cell f_law_begun f_law_draw f_is_whole f_is_place f_last_cell f_need_place f_cells_in f_law_whole f_shares f_law_place f_law_bits f_law_moved f_law_cells f_law_told f_law_shares f_law_other f_law : Addr} (X : K.In h) (G : h.Ns mainGlobals mg) (hfa : mg "law" = some (.ref fa))
    {od_law_cell an_law_cell : Option Addr} {sl_law_cell : Array (Option Value)} {oc_law_cell kV_law_cell dc_law_cell pm_law_cell cd_law_cell ct_law_cell : Value}
    {od_law_begun an_law_begun : Option Addr} {sl_law_begun : Array (Option Value)} {oc_law_begun kV_law_begun dc_law_begun pm_law_begun cd_law_begun ct_law_begun : Value}
    {od_law_draw an_law_draw : Option Addr} {sl_law_draw : Array (Option Value)} {oc_law_draw kV_law_draw dc_law_draw pm_law_draw cd_law_draw ct_law_draw : Value}
    {od_is_whole an_is_whole : Option Addr} {sl_is_whole : Array (Option Value)} {oc_is_whole kV_is_whole dc_is_whole pm_is_whole cd_is_whole ct_is_whole : Value}
    {od_is_place an_is_place : Option Addr} {sl_is_place : Array (Option Value)} {oc_is_place kV_is_place dc_is_place pm_is_place cd_is_place ct_is_place : Value}
    {od_last_cell an_last_cell : Option Addr} {sl_last_cell : Array (Option Value)} {oc_last_cell kV_last_cell dc_last_cell pm_last_cell cd_last_cell ct_last_cell : Value}
    {od_need_place an_need_place : Option Addr} {sl_need_place : Array (Option Value)} {oc_need_place kV_need_place dc_need_place pm_need_place cd_need_place ct_need_place : Value}
    {od_cells_in an_cells_in : Option Addr} {sl_cells_in : Array (Option Value)} {oc_cells_in kV_cells_in dc_cells_in pm_cells_in cd_cells_in ct_cells_in : Value}
    {od_law_whole an_law_whole : Option Addr} {sl_law_whole : Array (Option Value)} {oc_law_whole kV_law_whole dc_law_whole pm_law_whole cd_law_whole ct_law_whole : Value}
    {od_shares an_shares : Option Addr} {sl_shares : Array (Option Value)} {oc_shares kV_shares dc_shares pm_shares cd_shares ct_shares : Value}
    {od_law_place an_law_place : Option Addr} {sl_law_place : Array (Option Value)} {oc_law_place kV_law_place dc_law_place pm_law_place cd_law_place ct_law_place : Value}
    {od_law_bits an_law_bits : Option Addr} {sl_law_bits : Array (Option Value)} {oc_law_bits kV_law_bits dc_law_bits pm_law_bits cd_law_bits ct_law_bits : Value}
    {od_law_moved an_law_moved : Option Addr} {sl_law_moved : Array (Option Value)} {oc_law_moved kV_law_moved dc_law_moved pm_law_moved cd_law_moved ct_law_moved : Value}
    {od_law_cells an_law_cells : Option Addr} {sl_law_cells : Array (Option Value)} {oc_law_cells kV_law_cells dc_law_cells pm_law_cells cd_law_cells ct_law_cells : Value}
    {od_law_told an_law_told : Option Addr} {sl_law_told : Array (Option Value)} {oc_law_told kV_law_told dc_law_told pm_law_told cd_law_told ct_law_told : Value}
    {od_law_shares an_law_shares : Option Addr} {sl_law_shares : Array (Option Value)} {oc_law_shares kV_law_shares dc_law_shares pm_law_shares cd_law_shares ct_law_shares : Value}
    {od_law_other an_law_other : Option Addr} {sl_law_other : Array (Option Value)} {oc_law_other kV_law_other dc_law_other pm_law_other cd_law_other ct_law_other : Value}
    {od_law an_law : Option Addr} {sl_law : Array (Option Value)} {oc_law kV_law dc_law pm_law cd_law ct_law : Value}
    (a_law_cell : PySem.W.nsIn K mainGlobals "_law_cell" = some (some (.ref f_law_cell)))
    (l_law_cell : K.lookup f_law_cell = some ⟨oc_law_cell, od_law_cell, .func (PySem.W.fnOf "_law_cell" "_law_cell" (defArgs s_law_cell) (defBody s_law_cell) (defScope s_law_cell) .none kV_law_cell dc_law_cell pm_law_cell an_law_cell cd_law_cell ct_law_cell), sl_law_cell⟩)
    (c_law_cell : PySem.W.codeIn K cd_law_cell "_law_cell" = true)
    (k_law_cell : PySem.W.keepIn K (.ref f_law_cell) = true)
    (a_law_begun : PySem.W.nsIn K mainGlobals "_law_begun" = some (some (.ref f_law_begun)))
    (l_law_begun : K.lookup f_law_begun = some ⟨oc_law_begun, od_law_begun, .func (PySem.W.fnOf "_law_begun" "_law_begun" (defArgs s_law_begun) (defBody s_law_begun) (defScope s_law_begun) .none kV_law_begun dc_law_begun pm_law_begun an_law_begun cd_law_begun ct_law_begun), sl_law_begun⟩)
    (c_law_begun : PySem.W.codeIn K cd_law_begun "_law_begun" = true)
    (k_law_begun : PySem.W.keepIn K (.ref f_law_begun) = true)
    (a_law_draw : PySem.W.nsIn K mainGlobals "_law_draw" = some (some (.ref f_law_draw)))
    (l_law_draw : K.lookup f_law_draw = some ⟨oc_law_draw, od_law_draw, .func (PySem.W.fnOf "_law_draw" "_law_draw" (defArgs s_law_draw) (defBody s_law_draw) (defScope s_law_draw) .none kV_law_draw dc_law_draw pm_law_draw an_law_draw cd_law_draw ct_law_draw), sl_law_draw⟩)
    (c_law_draw : PySem.W.codeIn K cd_law_draw "_law_draw" = true)
    (k_law_draw : PySem.W.keepIn K (.ref f_law_draw) = true)
    (a_is_whole : PySem.W.nsIn K mainGlobals "is_whole" = some (some (.ref f_is_whole)))
    (l_is_whole : K.lookup f_is_whole = some ⟨oc_is_whole, od_is_whole, .func (PySem.W.fnOf "is_whole" "is_whole" (defArgs s_is_whole) (defBody s_is_whole) (defScope s_is_whole) .none kV_is_whole dc_is_whole pm_is_whole an_is_whole cd_is_whole ct_is_whole), sl_is_whole⟩)
    (c_is_whole : PySem.W.codeIn K cd_is_whole "is_whole" = true)
    (k_is_whole : PySem.W.keepIn K (.ref f_is_whole) = true)
    (a_is_place : PySem.W.nsIn K mainGlobals "is_place" = some (some (.ref f_is_place)))
    (l_is_place : K.lookup f_is_place = some ⟨oc_is_place, od_is_place, .func (PySem.W.fnOf "is_place" "is_place" (defArgs s_is_place) (defBody s_is_place) (defScope s_is_place) .none kV_is_place dc_is_place pm_is_place an_is_place cd_is_place ct_is_place), sl_is_place⟩)
    (c_is_place : PySem.W.codeIn K cd_is_place "is_place" = true)
    (k_is_place : PySem.W.keepIn K (.ref f_is_place) = true)
    (a_last_cell : PySem.W.nsIn K mainGlobals "last_cell" = some (some (.ref f_last_cell)))
    (l_last_cell : K.lookup f_last_cell = some ⟨oc_last_cell, od_last_cell, .func (PySem.W.fnOf "last_cell" "last_cell" (defArgs s_last_cell) (defBody s_last_cell) (defScope s_last_cell) .none kV_last_cell dc_last_cell pm_last_cell an_last_cell cd_last_cell ct_last_cell), sl_last_cell⟩)
    (c_last_cell : PySem.W.codeIn K cd_last_cell "last_cell" = true)
    (k_last_cell : PySem.W.keepIn K (.ref f_last_cell) = true)
    (a_need_place : PySem.W.nsIn K mainGlobals "need_place" = some (some (.ref f_need_place)))
    (l_need_place : K.lookup f_need_place = some ⟨oc_need_place, od_need_place, .func (PySem.W.fnOf "need_place" "need_place" (defArgs s_need_place) (defBody s_need_place) (defScope s_need_place) .none kV_need_place dc_need_place pm_need_place an_need_place cd_need_place ct_need_place), sl_need_place⟩)
    (c_need_place : PySem.W.codeIn K cd_need_place "need_place" = true)
    (k_need_place : PySem.W.keepIn K (.ref f_need_place) = true)
    (a_cells_in : PySem.W.nsIn K mainGlobals "cells_in" = some (some (.ref f_cells_in)))
    (l_cells_in : K.lookup f_cells_in = some ⟨oc_cells_in, od_cells_in, .func (PySem.W.fnOf "cells_in" "cells_in" (defArgs s_cells_in) (defBody s_cells_in) (defScope s_cells_in) .none kV_cells_in dc_cells_in pm_cells_in an_cells_in cd_cells_in ct_cells_in), sl_cells_in⟩)
    (c_cells_in : PySem.W.codeIn K cd_cells_in "cells_in" = true)
    (k_cells_in : PySem.W.keepIn K (.ref f_cells_in) = true)
    (a_law_whole : PySem.W.nsIn K mainGlobals "_law_whole" = some (some (.ref f_law_whole)))
    (l_law_whole : K.lookup f_law_whole = some ⟨oc_law_whole, od_law_whole, .func (PySem.W.fnOf "_law_whole" "_law_whole" (defArgs s_law_whole) (defBody s_law_whole) (defScope s_law_whole) .none kV_law_whole dc_law_whole pm_law_whole an_law_whole cd_law_whole ct_law_whole), sl_law_whole⟩)
    (c_law_whole : PySem.W.codeIn K cd_law_whole "_law_whole" = true)
    (k_law_whole : PySem.W.keepIn K (.ref f_law_whole) = true)
    (a_shares : PySem.W.nsIn K mainGlobals "shares" = some (some (.ref f_shares)))
    (l_shares : K.lookup f_shares = some ⟨oc_shares, od_shares, .func (PySem.W.fnOf "shares" "shares" (defArgs s_shares) (defBody s_shares) (defScope s_shares) .none kV_shares dc_shares pm_shares an_shares cd_shares ct_shares), sl_shares⟩)
    (c_shares : PySem.W.codeIn K cd_shares "shares" = true)
    (k_shares : PySem.W.keepIn K (.ref f_shares) = true)
    (a_law_place : PySem.W.nsIn K mainGlobals "_law_place" = some (some (.ref f_law_place)))
    (l_law_place : K.lookup f_law_place = some ⟨oc_law_place, od_law_place, .func (PySem.W.fnOf "_law_place" "_law_place" (defArgs s_law_place) (defBody s_law_place) (defScope s_law_place) .none kV_law_place dc_law_place pm_law_place an_law_place cd_law_place ct_law_place), sl_law_place⟩)
    (c_law_place : PySem.W.codeIn K cd_law_place "_law_place" = true)
    (k_law_place : PySem.W.keepIn K (.ref f_law_place) = true)
    (a_law_bits : PySem.W.nsIn K mainGlobals "_law_bits" = some (some (.ref f_law_bits)))
    (l_law_bits : K.lookup f_law_bits = some ⟨oc_law_bits, od_law_bits, .func (PySem.W.fnOf "_law_bits" "_law_bits" (defArgs s_law_bits) (defBody s_law_bits) (defScope s_law_bits) .none kV_law_bits dc_law_bits pm_law_bits an_law_bits cd_law_bits ct_law_bits), sl_law_bits⟩)
    (c_law_bits : PySem.W.codeIn K cd_law_bits "_law_bits" = true)
    (k_law_bits : PySem.W.keepIn K (.ref f_law_bits) = true)
    (a_law_moved : PySem.W.nsIn K mainGlobals "_law_moved" = some (some (.ref f_law_moved)))
    (l_law_moved : K.lookup f_law_moved = some ⟨oc_law_moved, od_law_moved, .func (PySem.W.fnOf "_law_moved" "_law_moved" (defArgs s_law_moved) (defBody s_law_moved) (defScope s_law_moved) .none kV_law_moved dc_law_moved pm_law_moved an_law_moved cd_law_moved ct_law_moved), sl_law_moved⟩)
    (c_law_moved : PySem.W.codeIn K cd_law_moved "_law_moved" = true)
    (k_law_moved : PySem.W.keepIn K (.ref f_law_moved) = true)
    (a_law_cells : PySem.W.nsIn K mainGlobals "_law_cells" = some (some (.ref f_law_cells)))
    (l_law_cells : K.lookup f_law_cells = some ⟨oc_law_cells, od_law_cells, .func (PySem.W.fnOf "_law_cells" "_law_cells" (defArgs s_law_cells) (defBody s_law_cells) (defScope s_law_cells) .none kV_law_cells dc_law_cells pm_law_cells an_law_cells cd_law_cells ct_law_cells), sl_law_cells⟩)
    (c_law_cells : PySem.W.codeIn K cd_law_cells "_law_cells" = true)
    (k_law_cells : PySem.W.keepIn K (.ref f_law_cells) = true)
    (a_law_told : PySem.W.nsIn K mainGlobals "_law_told" = some (some (.ref f_law_told)))
    (l_law_told : K.lookup f_law_told = some ⟨oc_law_told, od_law_told, .func (PySem.W.fnOf "_law_told" "_law_told" (defArgs s_law_told) (defBody s_law_told) (defScope s_law_told) .none kV_law_told dc_law_told pm_law_told an_law_told cd_law_told ct_law_told), sl_law_told⟩)
    (c_law_told : PySem.W.codeIn K cd_law_told "_law_told" = true)
    (k_law_told : PySem.W.keepIn K (.ref f_law_told) = true)
    (a_law_shares : PySem.W.nsIn K mainGlobals "_law_shares" = some (some (.ref f_law_shares)))
    (l_law_shares : K.lookup f_law_shares = some ⟨oc_law_shares, od_law_shares, .func (PySem.W.fnOf "_law_shares" "_law_shares" (defArgs s_law_shares) (defBody s_law_shares) (defScope s_law_shares) .none kV_law_shares dc_law_shares pm_law_shares an_law_shares cd_law_shares ct_law_shares), sl_law_shares⟩)
    (c_law_shares : PySem.W.codeIn K cd_law_shares "_law_shares" = true)
    (k_law_shares : PySem.W.keepIn K (.ref f_law_shares) = true)
    (a_law_other : PySem.W.nsIn K mainGlobals "_law_other" = some (some (.ref f_law_other)))
    (l_law_other : K.lookup f_law_other = some ⟨oc_law_other, od_law_other, .func (PySem.W.fnOf "_law_other" "_law_other" (defArgs s_law_other) (defBody s_law_other) (defScope s_law_other) .none kV_law_other dc_law_other pm_law_other an_law_other cd_law_other ct_law_other), sl_law_other⟩)
    (c_law_other : PySem.W.codeIn K cd_law_other "_law_other" = true)
    (k_law_other : PySem.W.keepIn K (.ref f_law_other) = true)
    (a_law : PySem.W.nsIn K mainGlobals "law" = some (some (.ref f_law)))
    (l_law : K.lookup f_law = some ⟨oc_law, od_law, .func (PySem.W.fnOf "law" "law" (defArgs s_law) (defBody s_law) (defScope s_law) .none kV_law dc_law pm_law an_law cd_law ct_law), sl_law⟩)
    (c_law : PySem.W.codeIn K cd_law "law" = true)
    (k_law : PySem.W.keepIn K (.ref f_law) = true)
    (n_all : PySem.W.nsIn K mainGlobals "all" = some none)
    (n_bool : PySem.W.nsIn K mainGlobals "bool" = some none)
    (n_int : PySem.W.nsIn K mainGlobals "int" = some none)
    (n_isinstance : PySem.W.nsIn K mainGlobals "isinstance" = some none)
    (n_len : PySem.W.nsIn K mainGlobals "len" = some none)
    (n_list : PySem.W.nsIn K mainGlobals "list" = some none)
    (n_max : PySem.W.nsIn K mainGlobals "max" = some none)
    (n_min : PySem.W.nsIn K mainGlobals "min" = some none)
    (n_range : PySem.W.nsIn K mainGlobals "range" = some none)
    (n_tuple : PySem.W.nsIn K mainGlobals "tuple" = some none)
    {t_CELL_BITS : Tok} (q_CELL_BITS : PySem.W.nsIn K mainGlobals "CELL_BITS" = some (some (.int 8 t_CELL_BITS)))
    {t_MOST_BITS : Tok} (q_MOST_BITS : PySem.W.nsIn K mainGlobals "MOST_BITS" = some (some (.int 512 t_MOST_BITS)))
    {t_TAG_BITS : Tok} (q_TAG_BITS : PySem.W.nsIn K mainGlobals "TAG_BITS" = some (some (.int 2 t_TAG_BITS)))
    : ∃ fd : FuncData, (∀ (s : Shared) (v : Value), BindsTo s fd ⟨[v], []⟩ [("_law_script", v)]) ∧ ∀ base : Heap, K.In base → base.Ns mainGlobals mg → FnOk l.prog w K mg base CX0 6 fa fd ["_law_script"] (spLaw K) := by
  have e := hfa.symm.trans (PySem.W.mg_of X G a_law)
  cases e
  have F_law_cell := fun_mk (st := s_law_cell) l_law_cell c_law_cell k_law_cell
  have F_law_begun := fun_mk (st := s_law_begun) l_law_begun c_law_begun k_law_begun
  have F_law_draw := fun_mk (st := s_law_draw) l_law_draw c_law_draw k_law_draw
  have F_is_whole := fun_mk (st := s_is_whole) l_is_whole c_is_whole k_is_whole
  have F_is_place := fun_mk (st := s_is_place) l_is_place c_is_place k_is_place
  have F_last_cell := fun_mk (st := s_last_cell) l_last_cell c_last_cell k_last_cell
  have F_need_place := fun_mk (st := s_need_place) l_need_place c_need_place k_need_place
  have F_cells_in := fun_mk (st := s_cells_in) l_cells_in c_cells_in k_cells_in
  have F_law_whole := fun_mk (st := s_law_whole) l_law_whole c_law_whole k_law_whole
  have F_shares := fun_mk (st := s_shares) l_shares c_shares k_shares
  have F_law_place := fun_mk (st := s_law_place) l_law_place c_law_place k_law_place
  have F_law_bits := fun_mk (st := s_law_bits) l_law_bits c_law_bits k_law_bits
  have F_law_moved := fun_mk (st := s_law_moved) l_law_moved c_law_moved k_law_moved
  have F_law_cells := fun_mk (st := s_law_cells) l_law_cells c_law_cells k_law_cells
  have F_law_told := fun_mk (st := s_law_told) l_law_told c_law_told k_law_told
  have F_law_shares := fun_mk (st := s_law_shares) l_law_shares c_law_shares k_law_shares
  have F_law_other := fun_mk (st := s_law_other) l_law_other c_law_other k_law_other
  have F_law := fun_mk (st := s_law) l_law c_law k_law
  have c_CELL_BITS : ∃ t, mg "CELL_BITS" = some (.int 8 t) := ⟨_, PySem.W.mg_of X G q_CELL_BITS⟩
  have c_MOST_BITS : ∃ t, mg "MOST_BITS" = some (.int 512 t) := ⟨_, PySem.W.mg_of X G q_MOST_BITS⟩
  have c_TAG_BITS : ∃ t, mg "TAG_BITS" = some (.int 2 t) := ⟨_, PySem.W.mg_of X G q_TAG_BITS⟩
  have z_all : mg "all" = none := PySem.W.mg_none_of X G n_all
  have z_bool : mg "bool" = none := PySem.W.mg_none_of X G n_bool
  have z_int : mg "int" = none := PySem.W.mg_none_of X G n_int
  have z_isinstance : mg "isinstance" = none := PySem.W.mg_none_of X G n_isinstance
  have z_len : mg "len" = none := PySem.W.mg_none_of X G n_len
  have z_list : mg "list" = none := PySem.W.mg_none_of X G n_list
  have z_max : mg "max" = none := PySem.W.mg_none_of X G n_max
  have z_min : mg "min" = none := PySem.W.mg_none_of X G n_min
  have z_range : mg "range" = none := PySem.W.mg_none_of X G n_range
  have z_tuple : mg "tuple" = none := PySem.W.mg_none_of X G n_tuple
  refine ⟨PySem.W.fnOf "law" "law" (defArgs s_law) (defBody s_law) (defScope s_law) .none kV_law dc_law pm_law an_law cd_law ct_law, fun s v => .of_eq rfl, fun base _ _ => ?_⟩
  have D_law_cell : Dn l.prog w K mg base CX0 1 "_law_cell" ["_law_script", "_law_k"] (spCell K) := ⟨⟨_, _, ok_cell F_law_cell z_len, PySem.W.mg_of X G a_law_cell, k_law_cell, F_law_cell.binds (ps := ["_law_script", "_law_k"]) fun _ _ _ _ _ _ us hl => match us, hl with | [_, _], _ => rfl⟩⟩
  have D_law_begun : Dn l.prog w K mg base CX0 1 "_law_begun" ["_law_cell_here"] spBegun := ⟨⟨_, _, ok_begun F_law_begun, PySem.W.mg_of X G a_law_begun, k_law_begun, F_law_begun.binds (ps := ["_law_cell_here"]) fun _ _ _ _ _ _ us hl => match us, hl with | [_], _ => rfl⟩⟩
  have D_law_draw : Dn l.prog w K mg base CX0 1 "_law_draw" ["_law_state", "_law_many"] spDraw := ⟨⟨_, _, ok_draw F_law_draw, PySem.W.mg_of X G a_law_draw, k_law_draw, F_law_draw.binds (ps := ["_law_state", "_law_many"]) fun _ _ _ _ _ _ us hl => match us, hl with | [_, _], _ => rfl⟩⟩
  have D_is_whole : Dn l.prog w K mg base CX0 1 "is_whole" ["thing"] (spIsWhole K) := ⟨⟨_, _, ok_isWhole F_is_whole z_isinstance z_int z_bool, PySem.W.mg_of X G a_is_whole, k_is_whole, F_is_whole.binds (ps := ["thing"]) fun _ _ _ _ _ _ us hl => match us, hl with | [_], _ => rfl⟩⟩
  have D_is_place : Dn l.prog w K mg base CX0 2 "is_place" ["thing"] (spIsPlace K) := ⟨⟨_, _, ok_isPlace F_is_place z_isinstance z_tuple z_len c_TAG_BITS c_CELL_BITS c_MOST_BITS D_is_whole, PySem.W.mg_of X G a_is_place, k_is_place, F_is_place.binds (ps := ["thing"]) fun _ _ _ _ _ _ us hl => match us, hl with | [_], _ => rfl⟩⟩
  have D_last_cell : Dn l.prog w K mg base CX0 1 "last_cell" ["place"] (spLastCell K) := ⟨⟨_, _, ok_lastCell F_last_cell c_CELL_BITS, PySem.W.mg_of X G a_last_cell, k_last_cell, F_last_cell.binds (ps := ["place"]) fun _ _ _ _ _ _ us hl => match us, hl with | [_], _ => rfl⟩⟩
  have D_need_place : Dn l.prog w K mg base CX0 3 "need_place" ["thing"] (spNeedOk K) := ⟨⟨_, _, ok_needOk F_need_place D_is_place, PySem.W.mg_of X G a_need_place, k_need_place, F_need_place.binds (ps := ["thing"]) fun _ _ _ _ _ _ us hl => match us, hl with | [_], _ => rfl⟩⟩
  have D_cells_in : Dn l.prog w K mg base CX0 4 "cells_in" ["place"] (spCellsIn K) := ⟨⟨_, _, ok_cellsIn F_cells_in z_range D_need_place D_last_cell, PySem.W.mg_of X G a_cells_in, k_cells_in, F_cells_in.binds (ps := ["place"]) fun _ _ _ _ _ _ us hl => match us, hl with | [_], _ => rfl⟩⟩
  have D_law_whole : Dn l.prog w K mg base CX0 1 "_law_whole" ["_law_found"] (spLWhole K) := ⟨⟨_, _, ok_lwhole F_law_whole z_isinstance z_int z_bool, PySem.W.mg_of X G a_law_whole, k_law_whole, F_law_whole.binds (ps := ["_law_found"]) fun _ _ _ _ _ _ us hl => match us, hl with | [_], _ => rfl⟩⟩
  have D_shares : Dn l.prog w K mg base CX0 4 "shares" ["one", "other"] (spShares K) := ⟨⟨_, _, ok_shares F_shares c_CELL_BITS D_need_place, PySem.W.mg_of X G a_shares, k_shares, F_shares.binds (ps := ["one", "other"]) fun _ _ _ _ _ _ us hl => match us, hl with | [_, _], _ => rfl⟩⟩
  have D_law_place : Dn l.prog w K mg base CX0 2 "_law_place" ["_law_state", "_law_wide"] spPlace := ⟨⟨_, _, ok_place F_law_place z_min D_law_draw, PySem.W.mg_of X G a_law_place, k_law_place, F_law_place.binds (ps := ["_law_state", "_law_wide"]) fun _ _ _ _ _ _ us hl => match us, hl with | [_, _], _ => rfl⟩⟩
  have D_law_bits : Dn l.prog w K mg base CX0 1 "_law_bits" ["_law_place_here"] (spBits K) := ⟨⟨_, _, ok_bits F_law_bits z_range, PySem.W.mg_of X G a_law_bits, k_law_bits, F_law_bits.binds (ps := ["_law_place_here"]) fun _ _ _ _ _ _ us hl => match us, hl with | [_], _ => rfl⟩⟩
  have D_law_moved : Dn l.prog w K mg base CX0 1 "_law_moved" ["_law_place_here", "_law_by"] (spMoved K) := ⟨⟨_, _, ok_moved F_law_moved, PySem.W.mg_of X G a_law_moved, k_law_moved, F_law_moved.binds (ps := ["_law_place_here", "_law_by"]) fun _ _ _ _ _ _ us hl => match us, hl with | [_, _], _ => rfl⟩⟩
  have D_law_cells : Dn l.prog w K mg base CX0 2 "_law_cells" ["_law_place_here"] (spCells K) := ⟨⟨_, _, ok_cells F_law_cells D_law_bits, PySem.W.mg_of X G a_law_cells, k_law_cells, F_law_cells.binds (ps := ["_law_place_here"]) fun _ _ _ _ _ _ us hl => match us, hl with | [_], _ => rfl⟩⟩
  have D_law_told : Dn l.prog w K mg base CX0 5 "_law_told" ["_law_place_here"] (spTold K) := ⟨⟨_, _, ok_told F_law_told z_isinstance z_list z_all D_cells_in D_law_cells D_law_whole D_need_place, PySem.W.mg_of X G a_law_told, k_law_told, F_law_told.binds (ps := ["_law_place_here"]) fun _ _ _ _ _ _ us hl => match us, hl with | [_], _ => rfl⟩⟩
  have D_law_shares : Dn l.prog w K mg base CX0 5 "_law_shares" ["_law_one", "_law_other_here"] (spLShares K) := ⟨⟨_, _, ok_lshares F_law_shares z_isinstance z_bool D_law_bits D_shares, PySem.W.mg_of X G a_law_shares, k_law_shares, F_law_shares.binds (ps := ["_law_one", "_law_other_here"]) fun _ _ _ _ _ _ us hl => match us, hl with | [_, _], _ => rfl⟩⟩
  have D_law_other : Dn l.prog w K mg base CX0 3 "_law_other" ["_law_state", "_law_one", "_law_wide"] (spOther K) := ⟨⟨_, _, ok_other F_law_other D_law_draw D_law_place, PySem.W.mg_of X G a_law_other, k_law_other, F_law_other.binds (ps := ["_law_state", "_law_one", "_law_wide"]) fun _ _ _ _ _ _ us hl => match us, hl with | [_, _, _], _ => rfl⟩⟩
  exact ok_law F_law z_len z_max z_min z_range D_law_cell D_law_begun D_law_draw D_law_place D_law_other D_law_moved D_law_told D_law_shares
end K04
open PySem PySem.W PyProof.Rows
set_option maxHeartbeats 0 in
theorem PySem.Challenge.cw_roomslaid_k04_places_and_shares_holds : PySem.Challenge.rw_roomslaid_k04_places_and_shares.Holds := by
  w_on; o_law; k_head; (case hw => w_witness2)
  k_fill
  refine L2.walk_of (l := PySem.Challenge.rw_roomslaid_k04_places_and_shares) (n := 63) (k := 6) (x := "_law_script") (CX := fun _ => L2.CX0) (sp := fun w => K04.spLaw _) rfl (by decide) rfl ⟨rfl, by decide, by decide⟩ (fun w h Y => PySem.W.kIn_of Y) ?F (fun _ _ a ns hl _ hS => ⟨a, ns, rfl, hS, hl, fun _ => rfl⟩) (fun _ _ _ _ _ h => h)
  case F =>
    intro w mg fa h KX G hmg
    refine' K04.all_mk KX G hmg ?a_law_cell ?l_law_cell ?c_law_cell ?k_law_cell ?a_law_begun ?l_law_begun ?c_law_begun ?k_law_begun ?a_law_draw ?l_law_draw ?c_law_draw ?k_law_draw ?a_is_whole ?l_is_whole ?c_is_whole ?k_is_whole ?a_is_place ?l_is_place ?c_is_place ?k_is_place ?a_last_cell ?l_last_cell ?c_last_cell ?k_last_cell ?a_need_place ?l_need_place ?c_need_place ?k_need_place ?a_cells_in ?l_cells_in ?c_cells_in ?k_cells_in ?a_law_whole ?l_law_whole ?c_law_whole ?k_law_whole ?a_shares ?l_shares ?c_shares ?k_shares ?a_law_place ?l_law_place ?c_law_place ?k_law_place ?a_law_bits ?l_law_bits ?c_law_bits ?k_law_bits ?a_law_moved ?l_law_moved ?c_law_moved ?k_law_moved ?a_law_cells ?l_law_cells ?c_law_cells ?k_law_cells ?a_law_told ?l_law_told ?c_law_told ?k_law_told ?a_law_shares ?l_law_shares ?c_law_shares ?k_law_shares ?a_law_other ?l_law_other ?c_law_other ?k_law_other ?a_law ?l_law ?c_law ?k_law ?n_all ?n_bool ?n_int ?n_isinstance ?n_len ?n_list ?n_max ?n_min ?n_range ?n_tuple ?q_CELL_BITS ?q_MOST_BITS ?q_TAG_BITS
    (case a_law_cell => k_is)
    (case l_law_cell => k_is)
    (case c_law_cell => k_is)
    (case k_law_cell => k_is)
    (case a_law_begun => k_is)
    (case l_law_begun => k_is)
    (case c_law_begun => k_is)
    (case k_law_begun => k_is)
    (case a_law_draw => k_is)
    (case l_law_draw => k_is)
    (case c_law_draw => k_is)
    (case k_law_draw => k_is)
    (case a_is_whole => k_is)
    (case l_is_whole => k_is)
    (case c_is_whole => k_is)
    (case k_is_whole => k_is)
    (case a_is_place => k_is)
    (case l_is_place => k_is)
    (case c_is_place => k_is)
    (case k_is_place => k_is)
    (case a_last_cell => k_is)
    (case l_last_cell => k_is)
    (case c_last_cell => k_is)
    (case k_last_cell => k_is)
    (case a_need_place => k_is)
    (case l_need_place => k_is)
    (case c_need_place => k_is)
    (case k_need_place => k_is)
    (case a_cells_in => k_is)
    (case l_cells_in => k_is)
    (case c_cells_in => k_is)
    (case k_cells_in => k_is)
    (case a_law_whole => k_is)
    (case l_law_whole => k_is)
    (case c_law_whole => k_is)
    (case k_law_whole => k_is)
    (case a_shares => k_is)
    (case l_shares => k_is)
    (case c_shares => k_is)
    (case k_shares => k_is)
    (case a_law_place => k_is)
    (case l_law_place => k_is)
    (case c_law_place => k_is)
    (case k_law_place => k_is)
    (case a_law_bits => k_is)
    (case l_law_bits => k_is)
    (case c_law_bits => k_is)
    (case k_law_bits => k_is)
    (case a_law_moved => k_is)
    (case l_law_moved => k_is)
    (case c_law_moved => k_is)
    (case k_law_moved => k_is)
    (case a_law_cells => k_is)
    (case l_law_cells => k_is)
    (case c_law_cells => k_is)
    (case k_law_cells => k_is)
    (case a_law_told => k_is)
    (case l_law_told => k_is)
    (case c_law_told => k_is)
    (case k_law_told => k_is)
    (case a_law_shares => k_is)
    (case l_law_shares => k_is)
    (case c_law_shares => k_is)
    (case k_law_shares => k_is)
    (case a_law_other => k_is)
    (case l_law_other => k_is)
    (case c_law_other => k_is)
    (case k_law_other => k_is)
    (case a_law => k_is)
    (case l_law => k_is)
    (case c_law => k_is)
    (case k_law => k_is)
    (case n_all => k_is)
    (case n_bool => k_is)
    (case n_int => k_is)
    (case n_isinstance => k_is)
    (case n_len => k_is)
    (case n_list => k_is)
    (case n_max => k_is)
    (case n_min => k_is)
    (case n_range => k_is)
    (case n_tuple => k_is)
    (case q_CELL_BITS => k_is)
    (case q_MOST_BITS => k_is)
    (case q_TAG_BITS => k_is)
