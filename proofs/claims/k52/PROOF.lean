import PyProof.Rows.All
import Wide.All
import OpenK.AllK
import Wide.FinOn
import HandS.ForMost
import HandS.NoneIn
import HandS.IsInst
import HandS.Wide
import HandS.WideBits
import HandS.More
import HandS.SetFor
import PyProof.LongRange
import HandS.Zip
import HandS.Style
import HandS.Text
import HandS.Exc
import HandS.TryOnly
import HandS.TryMany
import HandS.ExcOwn
import HandS.WordsExc
import HandS.ExcInit
import HandS.ExcField
import HandS.ClsMeth
import HandS.ExcIs
import HandS.Codes
import HandS.StrMore
import PyProof.ReprRoads
import HandS.RaiseMore
import HandS.DeepEq
import KE.KExcIs
import PySem.Challenge.RW_roomslaid_k52_lines_refused_and_looks
set_option Elab.async false
set_option linter.all false
set_option maxRecDepth 100000
set_option maxHeartbeats 4000000
/-! my base: short calls, heaps, readings by simp -/
namespace Rb
open PySem PySem.Spec PyProof.Rows L2

/-! ### a def of the text with its promise -/
structure Dn (P : Program) (w : World) (K : PySem.W.Frag) (mg : Str → Option Value) (base : Heap) (CX : CXT) (k : Nat) (x : Str) (ps : List Str) (sp : Sp) : Prop where
  ex : ∃ f fd, FnOk P w K mg base CX k f fd ps sp ∧ mg x = some (.ref f) ∧ PySem.W.keepIn K (.ref f) = true ∧ Binds K fd ps []
section
variable {X : Cx} {CX : CXT} {k : Nat} {ps : List Str} {sp : Sp} {E : XK} {x : Str} {p pos : Pos} {e : Expr} {es : List Expr} {t : TA}
theorem pe_cd (D : Dn X.prog X.w X.K X.mg X.base CX k x ps sp) (hr : Room k X.A) (hg : Gl X x) (hx : Passes CX X E) (ha : PA X (e :: es) t)
    (hdb : (x == ("__debug__" : Str)) = false := by decide) (he : starEach (e :: es) X.env = (false, eval e X.env) :: starEach es X.env := by rfl) (hpl : (backTo pos (starEach es X.env)).any (·.1) = false := by rfl) :
    PE X (.Call (.Name x p) (e :: es) [] pos) (tCall sp [] E t) := by
  obtain ⟨f, fd, F, m, kp, b⟩ := D.ex
  exact pe_call F hr hg m kp b .nil hx ha hdb he hpl
theorem pe_cd0 (D : Dn X.prog X.w X.K X.mg X.base CX k x ps sp) (hr : Room k X.A) (hg : Gl X x) (hx : Passes CX X E)
    (hdb : (x == ("__debug__" : Str)) = false := by decide) : PE X (.Call (.Name x p) [] [] pos) (tCall sp [] E tNil) := by
  obtain ⟨f, fd, F, m, kp, b⟩ := D.ex
  exact pe_call0 F hr hg m kp b .nil hx hdb
end

/-! ### heaps -/
/-- all but a is as it was -/
def Off (a : Addr) (H H' : Hp) : Prop := ∀ b o, b ≠ a → H b = some o → H' b = some o
theorem Off.refl {a : Addr} (H : Hp) : Off a H H := fun _ _ _ h => h
theorem Off.trans {a : Addr} {H H1 H2 : Hp} (p : Off a H H1) (q : Off a H1 H2) : Off a H H2 := fun b o n h => q b o n (p b o n h)
theorem Off.of {a : Addr} {H H' : Hp} (s : Same H H') : Off a H H' := fun b o _ h => s b o h
theorem Off.upd {a : Addr} {H : Hp} {o : HO} : Off a H (upd H a o) := fun b u n h => by rw [upd_ne n]; exact h
theorem Off.at {a b : Addr} {H H' : Hp} {o u : HO} (f : Off a H H') (h : H b = some o) (ha : H a = some u) (ne : o ≠ u) : H' b = some o := f b o (ne_of h ha ne) h
theorem same_new {H : Hp} {p : Addr} {o : HO} (h : H p = none) : Same H (upd H p o) := fun b u e => by rw [upd_ne (ne_of_none e h)]; exact e
/-- a new object: its place, the heap from then on -/
theorem new_intro {H : Hp} {o : HO} {Q : VK} (h : ∀ p H1, H p = none → Same H H1 → H1 p = some o → Q (.ref p) H1) : ∀ p, H p = none → Q (.ref p) (upd H p o) := fun p hp => h p _ hp (same_new hp) upd_same
theorem Same.rd {H H' : Hp} {a : Addr} {u : HO} (s : Same H H') (h : Rd H a u) : Rd H' a u := by
  rcases h with h | ⟨o, h⟩
  · exact .inl (s _ _ h)
  · exact .inr ⟨o, s _ _ h⟩
theorem Same.seqT {K : PySem.W.Frag} {H H' : Hp} {a : Addr} {xs : List V} (e : Same H H') (h : SqT K H a xs) : SqT K H' a xs := by
  rcases h with h | h
  · exact .inl (Same.rd e h)
  · exact .inr h
theorem seq_of {K : PySem.W.Frag} {H : Hp} {a : Addr} {xs : List V} (h : H a = some (.lst xs)) : SqL K H a xs := .inl (.inl h)
theorem seqT_of {K : PySem.W.Frag} {H : Hp} {a : Addr} {xs : List V} (h : H a = some (.tup xs)) : SqT K H a xs := .inl (.inl h)
theorem Off.seq {K : PySem.W.Frag} {a b : Addr} {H H' : Hp} {xs ys : List V} (f : Off a H H') (h : SqL K H b xs) (ha : H a = some (.lst ys)) (hb : b ≠ a) : SqL K H' b xs := by
  rcases h with (h | ⟨o, h⟩) | h
  · exact .inl (.inl (f _ _ hb h))
  · exact .inl (.inr ⟨o, f _ _ hb h⟩)
  · exact .inr h
theorem Off.frz {a b : Addr} {H H' : Hp} {o : Obj} {u : HO} {ys : List V} (f : Off a H H') (h : H b = some (.frz o u)) (ha : H a = some (.lst ys)) : H' b = some (.frz o u) := f.at h ha (by intro z; cases z)
/-- made since H, changed as one likes -/
theorem Same.mut {H H' : Hp} {p : Addr} {o : HO} (s : Same H H') (h : H p = none) : Same H (upd H' p o) := fun b u e => by rw [upd_ne (ne_of_none e h)]; exact s b u e
theorem Same.off {a : Addr} {H H1 H2 : Hp} (s : Same H H1) (h : H a = none) (f : Off a H1 H2) : Same H H2 := fun b u e => f b u (ne_of_none e h) (s b u e)
theorem none_back {H H' : Hp} {p : Addr} (s : Same H H') (h : H' p = none) : H p = none := s.free h
theorem Off.none {a p : Addr} {H H' : Hp} {u : HO} (f : Off a H H') (ha : H a = some u) (ha' : H' p = Option.none) (h' : ∃ o, H' a = some o) : H p = Option.none := by
  cases q : H p with
  | none => rfl
  | some o =>
    by_cases e : p = a
    · subst e
      obtain ⟨o', h'⟩ := h'
      rw [h'] at ha'; cases ha'
    · rw [f p o e q] at ha'; cases ha'
/-! ### what comes new, what is changed: told by letters -/
def New (H : Hp) (o : HO) (R : Addr → Hp → Prop) : Prop := ∀ p, H p = none → R p (upd H p o)
theorem New.intro {H : Hp} {o : HO} {R : Addr → Hp → Prop} (h : ∀ p H2, H p = none → Same H H2 → H2 p = some o → R p H2) : New H o R := fun p hp => h p _ hp (same_new hp) upd_same
def Upd (H : Hp) (a : Addr) (o : HO) (R : Hp → Prop) : Prop := R (upd H a o)
theorem Upd.intro {H : Hp} {a : Addr} {o : HO} {R : Hp → Prop} (h : ∀ H2, Off a H H2 → H2 a = some o → R H2) : Upd H a o R := h _ Off.upd upd_same
def Loop (J : It) (g : TG) (tb : TS) (D : Ends) (σ : L2.St) (H : Hp) : Prop := ∃ W : Nat → Nat → L2.St → Hp → Prop, (∃ m, W 0 m σ H) ∧ ∀ i m σ H, W i m σ H →
  (J.stop i H ∧ D.nx σ H) ∨ (J.go i H ∧ ∃ N : L2.St → Hp → Prop, (∀ σ' H', N σ' H' → ∃ m', m' < m ∧ W (i + 1) m' σ' H') ∧ ∀ x H', J.yld i H x H' → g x σ H' fun σ2 H2 => tb { D with nx := N, ct := N, bk := D.nx } σ2 H2)
def Cmp (J : It) (g : TG) (tt : TT) (te : TE) (vs : List Nat) (σ : L2.St) (H1 : Hp) (Q : VK) : Prop := ∀ D, H1 D = none → ∃ W : Nat → Nat → Hp → Prop, (∃ m, W 0 m (upd H1 D (.lst []))) ∧ ∀ i m H, W i m H →
  (J.stop i H ∧ Q (.ref D) H) ∨ (J.go i H ∧ ∃ Nx : Hp → Prop, (∀ H', Nx H' → ∃ m', m' < m ∧ W (i + 1) m' H') ∧ ∀ x H', J.yld i H x H' → g x (wipe σ vs) H' fun σ2 H2 => wipe σ2 vs = wipe σ vs ∧ tt σ2 H2 fun b H3 =>
    if b = true then te σ2 H3 fun y H4 => ∃ acc, H4 D = some (.lst acc) ∧ acc.length < sizeLine ∧ Nx (upd H4 D (.lst (acc ++ [y]))) else Nx H3)
theorem tTup_n {t : TA} : tTup t = fun σ H Q => t σ H fun xs H1 => xs.length ≤ sizeLine ∧ New H1 (.tup xs) fun p H2 => Q (.ref p) H2 := rfl
theorem tLst_n {t : TA} : tLst t = fun σ H Q => t σ H fun xs H1 => xs.length ≤ sizeLine ∧ New H1 (.lst xs) fun p H2 => Q (.ref p) H2 := rfl
theorem rSlL_n {K : PySem.W.Frag} : rSlL K = fun x lo hi H Q => ∃ a xs, x = .ref a ∧ SqL K H a xs ∧ New H (.lst (cutV xs lo hi)) fun p H2 => Q (.ref p) H2 := rfl
theorem rAppend_n : rAppend = fun x vs H Q => ∃ l xs y, x = .ref l ∧ vs = [y] ∧ H l = some (.lst xs) ∧ xs.length < sizeLine ∧ Upd H l (.lst (xs ++ [y])) fun H2 => Q .non H2 := rfl
theorem rExtend_n : rExtend = fun x vs H Q => ∃ l b xs zs, x = .ref l ∧ vs = [.ref b] ∧ H l = some (.lst xs) ∧ H b = some (.lst zs) ∧ xs.length + zs.length ≤ sizeLine ∧ Upd H l (.lst (xs ++ zs)) fun H2 => Q .non H2 := rfl
theorem rPop_n : rPop = fun x vs H Q => ∃ l xs y, x = .ref l ∧ vs = [] ∧ H l = some (.lst xs) ∧ xs[xs.length - 1]? = some y ∧ Upd H l (.lst xs.dropLast) fun H2 => Q y H2 := rfl
theorem rClear_n : rClear = fun x vs H Q => ∃ l xs, x = .ref l ∧ vs = [] ∧ H l = some (.lst xs) ∧ Upd H l (.lst []) fun H2 => Q .non H2 := rfl
theorem rSetL_n : rSetL = fun o i v H Q => ∃ p xs k j, o = .ref p ∧ i = .int k ∧ H p = some (.lst xs) ∧ ixN xs.length k = some j ∧ Upd H p (.lst (xs.set j v)) fun H2 => Q H2 := rfl
theorem tFor_n {wi : TI} {g : TG} {tb : TS} : tFor wi g tb = fun D σ H => wi σ H fun J H1 => Loop J g tb D σ H1 := rfl
theorem tLc_n {wi : TI} {g : TG} {tt : TT} {te : TE} {vs : List Nat} : tLc wi g tt te vs = fun σ H Q => wi σ H fun J H1 => Cmp J g tt te vs σ H1 Q := rfl
/-! built-ins, by letters -/
def rDivmod : List V → Hp → VK → Prop := fun xs H Q => ∃ i j, xs = [.int i, .int j] ∧ CDiv i j ∧ New H (.tup [.int (i / j), .int (i % j)]) fun p H2 => Q (.ref p) H2
theorem call_divmodR {X : Cx} : CallR X (.builtin "divmod") rDivmod := call_divmod
def rListOf (K : PySem.W.Frag) : List V → Hp → VK → Prop := fun xs H Q => ∃ p ys, xs = [.ref p] ∧ (SqL K H p ys ∨ SqT K H p ys) ∧ New H (.lst ys) fun l H2 => Q (.ref l) H2
theorem call_listR {X : Cx} {K : PySem.W.Frag} (h : X.K = K := by rfl) : CallR X (.type "list") (rListOf K) := by subst h; exact call_list_of
def rTupOf (K : PySem.W.Frag) : List V → Hp → VK → Prop := fun xs H Q => ∃ p ys, xs = [.ref p] ∧ ((SqL K H p ys ∧ New H (.tup ys) fun l H2 => Q (.ref l) H2) ∨ (SqT K H p ys ∧ Q (.ref p) H))
theorem call_tupR {X : Cx} {K : PySem.W.Frag} (h : X.K = K := by rfl) : CallR X (.type "tuple") (rTupOf K) := by subst h; exact call_tuple_of
def rLenSeq (K : PySem.W.Frag) : List V → Hp → VK → Prop := fun xs H Q => ∃ p ys, xs = [.ref p] ∧ (SqL K H p ys ∨ SqT K H p ys) ∧ Q (.int ys.length) H
theorem call_lenR {X : Cx} {K : PySem.W.Frag} (h : X.K = K := by rfl) : CallR X (.builtin "len") (rLenSeq K) := by subst h; exact call_len_seq
def rMin2 : List V → Hp → VK → Prop := fun xs H Q => ∃ i j, xs = [.int i, .int j] ∧ Q (.int (if j < i then j else i)) H
def rMax2 : List V → Hp → VK → Prop := fun xs H Q => ∃ i j, xs = [.int i, .int j] ∧ Q (.int (if j > i then j else i)) H
theorem call_min2R {X : Cx} (hc : X.calm = true) : CallR X (.builtin "min") rMin2 := call_min2 hc
theorem call_max2R {X : Cx} (hc : X.calm = true) : CallR X (.builtin "max") rMax2 := call_max2 hc

theorem snocI {α : Type} {P : List α → Prop} (h0 : P []) (h1 : ∀ xs x, P xs → P (xs ++ [x])) (l : List α) : P l := by
  have h : ∀ r : List α, P r.reverse := fun r => by
    induction r with
    | nil => exact h0
    | cons x r ih =>
      rw [List.reverse_cons]
      exact h1 _ _ ih
  rw [← List.reverse_reverse l]
  exact h _
/-! ### kinds of things -/
def kinds : List String := ["NoneType", "bool", "int", "str", "list", "tuple", "dict"]
def kindIs (T U : String) : Bool := T == U || (T == "bool" && U == "int")
theorem kd_all : ∀ T ∈ kinds, ∀ U ∈ ["bool", "int", "str", "list", "tuple", "dict"], kitB T U = some (kindIs T U) := by decide +kernel
def Thg (K : PySem.W.Frag) (H : Hp) (x : V) (T : String) : Prop := TyX K H x (.type T) ∧ T ∈ kinds
def isWh : V → Bool
  | .int _ => true
  | _ => false
theorem isi {K : PySem.W.Frag} {H : Hp} {x : V} {T U : String} {b : Bool} {R : Bool → Prop} (ty : TyX K H x (.type T)) (h : kitB T U = some b) (q : R b) : ∃ (t u : Value), ClsV (.ty U) u ∧ TyX K H x t ∧ ∃ b', PySem.W.kitOne K t u = some b' ∧ R b' :=
  ⟨_, _, .ty U, ty, b, kit_ty h, q⟩
/-- isinstance of any thing -/
theorem isiT {K : PySem.W.Frag} {H : Hp} {x : V} {T U : String} {R : Bool → Prop} (t : Thg K H x T) (hU : U ∈ ["bool", "int", "str", "list", "tuple", "dict"]) (q : R (kindIs T U)) : ∃ (t u : Value), ClsV (.ty U) u ∧ TyX K H x t ∧ ∃ b', PySem.W.kitOne K t u = some b' ∧ R b' :=
  isi t.1 (kd_all T t.2 U hU) q
theorem thg_int {K : PySem.W.Frag} {H : Hp} {i : Int} : Thg K H (.int i) "int" := ⟨.base (.int i), by decide⟩
theorem thg_bl {K : PySem.W.Frag} {H : Hp} {b : Bool} : Thg K H (.bl b) "bool" := ⟨.base (.bl b), by decide⟩
theorem thg_non {K : PySem.W.Frag} {H : Hp} : Thg K H .non "NoneType" := ⟨.base .non, by decide⟩
theorem thg_str {K : PySem.W.Frag} {H : Hp} {z : Str} : Thg K H (.str z) "str" := ⟨.base (.str z), by decide⟩
theorem thg_lst {K : PySem.W.Frag} {H : Hp} {a : Addr} {xs : List V} (h : H a = some (.lst xs)) : Thg K H (.ref a) "list" := ⟨.base (.lst h), by decide⟩
theorem thg_dK {K : PySem.W.Frag} {H : Hp} {a : Addr} {xs : List (Key × V)} (h : H a = some (.dK xs)) : Thg K H (.ref a) "dict" := ⟨.base (.dK h), by decide⟩
theorem thg_tup {K : PySem.W.Frag} {H : Hp} {a : Addr} {xs : List V} (h : SqT K H a xs) : Thg K H (.ref a) "tuple" := by
  refine ⟨?_, by decide⟩
  rcases h with (h | ⟨o, h⟩) | ⟨o, _, _, h, hc, _⟩
  · exact .base (.tup h)
  · exact .fTuple h
  · exact .kTuple h hc
theorem thg_seq {K : PySem.W.Frag} {H : Hp} {a : Addr} {xs : List V} (h : SqL K H a xs) : Thg K H (.ref a) "list" := by
  refine ⟨?_, by decide⟩
  rcases h with (h | ⟨o, h⟩) | ⟨o, _, _, h, hc, _⟩
  · exact .base (.lst h)
  · exact .base (.frz h)
  · exact .kList h hc
/-- whole numbers and no others are of the kind int alone -/
theorem isWh_of {K : PySem.W.Frag} {H : Hp} {x : V} {T : String} (t : Thg K H x T) : (kindIs T "int" && !kindIs T "bool") = isWh x := by
  obtain ⟨ty, hT⟩ := t
  generalize hc : Value.type T = c at ty
  cases ty with
  | base b =>
    cases b with
    | ins e cl ha hn htk hm => cases hc
    | _ => cases hc; rfl
  | byt b =>
    cases hc
    exact absurd hT (by decide)
  | set e =>
    cases hc
    exact absurd hT (by decide)
  | kList e c => cases hc; rfl
  | kTuple e c => cases hc; rfl
  | kDict e c => cases hc; rfl
  | fTuple e => cases hc; rfl
  | fDict e => cases hc; rfl
/-! ### constants of the module -/
theorem pe_gi {X : Cx} {x : Str} {v : Int} {pos : Pos} (hg : Gl X x) (hm : ∃ t, X.mg x = some (.int v t)) (hd : (x == ("__debug__" : Str)) = false := by decide) : PE X (.Name x pos) (tC (.int v)) := by
  obtain ⟨t, hm⟩ := hm
  exact pe_glob hg hm ⟨t, rfl⟩ hd
theorem pe_gs {X : Cx} {x v : Str} {pos : Pos} (hg : Gl X x) (hm : ∃ t, X.mg x = some (.str v t)) (hd : (x == ("__debug__" : Str)) = false := by decide) : PE X (.Name x pos) (tC (.str v)) := by
  obtain ⟨t, hm⟩ := hm
  exact pe_glob hg hm ⟨t, rfl⟩ hd
/-! ### tuples in a list -/
def Tups (K : PySem.W.Frag) (H : Hp) : List V → List (List V) → Prop := Paired fun x d => ∃ a, x = .ref a ∧ SqT K H a d
theorem Tups.same {K : PySem.W.Frag} {H H' : Hp} {xs : List V} {ds : List (List V)} (t : Tups K H xs ds) (s : Same H H') : Tups K H' xs ds := Paired.mapP t fun x d ⟨a, e, h⟩ => ⟨a, e, Same.seqT s h⟩
theorem Tups.get {K : PySem.W.Frag} {H : Hp} : ∀ {xs : List V} {ds : List (List V)} {i : Nat} {x : V}, Tups K H xs ds → xs[i]? = some x → ∃ a d, ds[i]? = some d ∧ x = .ref a ∧ SqT K H a d
  | _, _, _, _, .nil, e => by simp at e
  | _, _, 0, _, .cons ⟨a, e1, h⟩ _, e => by
    cases e
    exact ⟨a, _, rfl, e1, h⟩
  | _, _, i + 1, x, .cons _ t, e => Tups.get (i := i) t (by simpa using e)
theorem Tups.append {K : PySem.W.Frag} {H : Hp} : ∀ {xs ys : List V} {ds es : List (List V)}, Tups K H xs ds → Tups K H ys es → Tups K H (xs ++ ys) (ds ++ es)
  | _, _, _, _, .nil, s => s
  | _, _, _, _, .cons r t, s => .cons r (Tups.append t s)
theorem Tups.take {K : PySem.W.Frag} {H : Hp} : ∀ {xs : List V} {ds : List (List V)} (n : Nat), Tups K H xs ds → Tups K H (xs.take n) (ds.take n)
  | _, _, 0, _ => .nil
  | _, _, _ + 1, .nil => .nil
  | _, _, n + 1, .cons r t => .cons r (Tups.take n t)
theorem Tups.len {K : PySem.W.Frag} {H : Hp} {xs : List V} {ds : List (List V)} (t : Tups K H xs ds) : xs.length = ds.length := Paired.length t
theorem SqT.off {K : PySem.W.Frag} {H H' : Hp} {D a : Addr} {xs ys : List V} (f : Off D H H') (hD : H D = some (.lst ys)) (h : SqT K H a xs) : SqT K H' a xs := by
  rcases h with (h | ⟨o, h⟩) | h
  · exact .inl (.inl (f.at h hD (by intro z; cases z)))
  · exact .inl (.inr ⟨o, f.at h hD (by intro z; cases z)⟩)
  · exact .inr h
theorem Tups.off {K : PySem.W.Frag} {H H' : Hp} {D : Addr} {xs ys : List V} {ds : List (List V)} (t : Tups K H xs ds) (f : Off D H H') (hD : H D = some (.lst ys)) : Tups K H' xs ds := Paired.mapP t fun x d ⟨a, e, h⟩ => ⟨a, e, SqT.off f hD h⟩
theorem SqL.off {K : PySem.W.Frag} {H H' : Hp} {D a : Addr} {xs : List V} (f : Off D H H') (n : a ≠ D) (h : SqL K H a xs) : SqL K H' a xs := by
  rcases h with (h | ⟨o, h⟩) | h
  · exact .inl (.inl (f _ _ n h))
  · exact .inl (.inr ⟨o, f _ _ n h⟩)
  · exact .inr h
theorem sz100 {n : Nat} (h : n ≤ 100000) : n ≤ sizeLine := Nat.le_trans h (by decide)
theorem sz100l {n : Nat} (h : n < 100000) : n < sizeLine := Nat.lt_of_lt_of_le h (by decide)
theorem head_int (ns : List Int) (m : Int) : ∃ z, atI (ns.map V.int ++ [.int m]) 0 = some (.int z) := by
  cases ns with
  | nil => exact ⟨m, rfl⟩
  | cons z r => exact ⟨z, atI_nat (j := 0) rfl⟩
theorem last_int {l : List Int} {z : Int} (h : l[l.length - 1]? = some z) : atI (l.map V.int) (-1) = some (.int z) := by
  have ne : l ≠ [] := fun e => by
    rw [e] at h
    cases h
  have e1 := List.dropLast_concat_getLast ne
  have e2 : l.getLast ne = z := by
    rw [List.getLast_eq_getElem]
    rw [List.getElem?_eq_getElem (by cases l <;> simp at ne ⊢)] at h
    exact Option.some.inj h
  rw [← e1, List.map_append, e2]
  exact atI_last _ _
/-! ### the rules over a written part that is named: within a comprehension, too -/
section
variable {X : Cx} {K : PySem.W.Frag}
theorem ix_listK (h : X.K = K := by rfl) : IxR X (rIxL K) := by subst h; exact ix_list
theorem ix_tupK (h : X.K = K := by rfl) : IxR X (rIxT K) := by subst h; exact ix_tup
theorem sl_listK (h : X.K = K := by rfl) : SlR X (rSlL K) := by subst h; exact sl_list
theorem sl_tupK (h : X.K = K := by rfl) : SlR X (rSlT K) := by subst h; exact sl_tup
theorem op_in_seqK (h : X.K = K := by rfl) : OpR X (compareOp .In) (rIn K false) := by subst h; exact op_in_seq
theorem op_notIn_seqK (h : X.K = K := by rfl) : OpR X (compareOp .NotIn) (rIn K true) := by subst h; exact op_notIn_seq
theorem op_eqDK (hu : X.A.units + 64 < cLine) (h : X.K = K := by rfl) : OpR X (compareOp .Eq) (rEqD K) := by subst h; exact op_eqD hu
theorem op_neDK (hu : X.A.units + 64 < cLine) (h : X.K = K := by rfl) : OpR X (compareOp .NotEq) (rNeD K) := by subst h; exact op_neD hu
theorem op_catTK (h : X.K = K := by rfl) : OpR X (binaryOp .Add) (rCatT K) := by subst h; exact op_catT
theorem call_isiK' (h : X.K = K := by rfl) : CallR X (.builtin "isinstance") (rIsi K) := by subst h; exact call_isi
theorem call_isiTK (h : X.K = K := by rfl) : CallR X (.builtin "isinstance") (rIsiT K) := by subst h; exact call_isiT
theorem cr_allK (hc : X.calm = true) (h : X.K = K := by rfl) : CallR X (.builtin "all") (rAll K) := by subst h; exact cr_all hc
theorem cr_anyK (hc : X.calm = true) (h : X.K = K := by rfl) : CallR X (.builtin "any") (rAny K) := by subst h; exact cr_any hc
theorem cr_sumK (hc : X.calm = true) (h : X.K = K := by rfl) : CallR X (.builtin "sum") (rSum K) := by subst h; exact cr_sum hc
theorem pi_listK {tg l : Expr} {tl : TE} (hl : PE X l tl) (h : X.K = K := by rfl) : PI X tg l (iList K tl) := by subst h; exact pi_list hl
theorem pi_tupK {tg l : Expr} {tl : TE} (hl : PE X l tl) (h : X.K = K := by rfl) : PI X tg l (iTup K tl) := by subst h; exact pi_tup hl
theorem pi_reversedK {tg e : Expr} {ta : TA} {p pos : Pos} (hg : Gl X "reversed") (hm : X.mg "reversed" = none) (ha : PA X [e] ta) (hs : starEach [e] X.env = [(false, eval e X.env)] := by rfl) (h : X.K = K := by rfl) : PI X tg (.Call (.Name "reversed" p) [e] [] pos) (iRev K ta) := by subst h; exact pi_reversed hg hm ha hs
theorem pe_bm0K {o : Expr} {to : TE} {name : Str} {apos cpos : Pos} {T id : String} {r : V → List V → Hp → VK → Prop} (pa : PlainAttrs T) (slot : Slot T name id) (hty : typeOf (.builtin id) = pure (.type "method_descriptor")) (hm : MtR X id r) (ho : PE X o to)
    (hbase : attributeBase o name X.env (eval o X.env) = eval o X.env := by rfl) (hline : (apos.endLine == cpos.line) = true := by rfl) (h : X.K = K := by rfl) : PE X (.Call (.Attribute o name apos) [] [] cpos) (tBM0 K T r to) := by subst h; exact pe_bm0 pa slot hty hm ho hbase hline
theorem pe_bmK {o e : Expr} {es : List Expr} {to : TE} {t : TA} {name : Str} {apos cpos : Pos} {T id : String} {r : V → List V → Hp → VK → Prop} (pa : PlainAttrs T) (slot : Slot T name id) (hty : typeOf (.builtin id) = pure (.type "method_descriptor")) (hm : MtR X id r) (ho : PE X o to) (ha : PA X (e :: es) t)
    (hbase : attributeBase o name X.env (eval o X.env) = eval o X.env := by rfl)
    (hfew : ((backTo cpos (starEach (e :: es) X.env)).all (fun x => !x.1) && (backToKw cpos (keywordEach [] X.env)).all (fun x => x.1.isSome)
      && decide ((e :: es).length + ([] : List Keyword).length + (if ([] : List Keyword).isEmpty then 0 else 1) < 30)) = true := by rfl)
    (hline : (apos.endLine == cpos.line) = true := by rfl) (hs : starEach (e :: es) X.env = (false, eval e X.env) :: starEach es X.env := by rfl) (hplain : (backTo cpos (starEach es X.env)).any (·.1) = false := by rfl) (h : X.K = K := by rfl) :
    PE X (.Call (.Attribute o name apos) (e :: es) [] cpos) (tBM K T r to t) := by subst h; exact pe_bm pa slot hty hm ho ha hbase hfew hline hs hplain
theorem mt_indexK (h : X.K = K := by rfl) : MtR X "list.index" (rIndex K) := by subst h; exact mt_index
theorem pi_enumK {e : Expr} {ta : TA} {p pos tpos : Pos} {elts : List Expr} {kk : Nat} (hg : Gl X "enumerate") (hm : X.mg "enumerate" = none) (ha : PA X [e] ta) (hs : starEach [e] X.env = [(false, eval e X.env)] := by rfl) (h : X.K = K := by rfl) :
    PI X (.Tuple elts kk tpos) (.Call (.Name "enumerate" p) [e] [] pos) (iEnum K ta) := by subst h; exact pi_enum hg hm ha hs
theorem pi_zipK {e e2 : Expr} {ta : TA} {p pos tpos : Pos} {elts : List Expr} {kk : Nat} (hg : Gl X "zip") (hm : X.mg "zip" = none) (ha : PA X [e, e2] ta)
    (hs : starEach [e, e2] X.env = (false, eval e X.env) :: starEach [e2] X.env := by rfl) (hpl : (backTo pos (starEach [e2] X.env)).any (·.1) = false := by rfl) (h : X.K = K := by rfl) :
    PI X (.Tuple elts kk tpos) (.Call (.Name "zip" p) [e, e2] [] pos) (iZip K ta) := by subst h; exact pi_zip hg hm ha hs hpl
theorem pe_fldK {e : Expr} {f : Str} {pos : Pos} {ta : TE} (he : PE X e ta) (hb : attributeBase e f X.env (eval e X.env) = eval e X.env) (h : X.K = K := by rfl) : PE X (.Attribute e f pos) (tFld K ta f) := by subst h; exact pe_fld he hb
end

/-! ### ranges of ints of any size, walked -/
theorem turn_long {P : Program} {w : World} {K : PySem.W.Frag} {tg : Expr} (it : Addr) (lo : Int) (n : Nat) : Turn P w K tg (Itr lo n) [it] it (fun i h => IsLongIter h it (lo + (i : Nat) * 1) ((n : Int) - (i : Nat)) 1) where
  mem := by simp
  obj := fun i h st b hb => by
    have e : b = it := by simpa using hb
    subst e
    exact ⟨_, st, fun v z => by
      have z' : Data.fields _ = Data.cell v := z
      cases z'⟩
  keep := fun i h h' st k => k it (by simp) _ st
  item := by
    intro X hP hw hK hc i pins s σ H E I hf st hg
    subst hP hw hK
    obtain ⟨f0, f1, f2, f3, f4, f5⟩ := hf it (by simp)
    have W := Walks.longrange (prog := X.prog) (w := X.w) (I.ok.hd hc) it lo 1 n
    refine W.item i s _ _ hg st fun v h' tk hv st' kk => ?_
    obtain ⟨t, rfl⟩ := hv
    have I1 : Inv X pins σ H { s with heap := h', toks := tk } := I.turned (fun b o hb e => kk b o (by simpa using hb) e) f0 f1 f3 f4 f5
    refine ⟨_, rfl, go_of (s := { s with heap := h', toks := tk }) (n := "longrange_iterator") st' rfl rfl (by decide) ⟨.int (lo + i), H, I1, ⟨t, ?_⟩, ⟨rfl, rfl⟩, st', fun b hb => (hf b hb).1⟩⟩
    rw [Int.mul_one]
  done := by
    intro X hP hw hK hc i pins s σ H E I hf st hg
    subst hP hw hK
    obtain ⟨f0, f1, f2, f3, f4, f5⟩ := hf it (by simp)
    exact wpAny_pyNext_long_end (I.ok.hd hc) st (by have : n ≤ i := hg; omega) fun h' eb => ⟨rfl, I.turned (t' := s.toks) (fun b o hb e => eb b o hb e) f0 f1 f3 f4 f5⟩
  self := fun _ _ _ _ _ st h => wpAny_pyIter_longiter st h
theorem range_itL {X : Cx} {tg : Expr} {pins : List (Addr × Obj)} {σ : L2.St} {H : Hp} {s : Shared} {R : It → Hp → Prop} {E : Value → Shared → Prop} {lo hi : Int} {t u v : Tok} {tk : Nat} (I : Inv X pins σ H s)
    (q : R (Itr lo (hi - lo).toNat) H) : wpAny (model X.prog X.w) X.A (pyIter (.ref s.heap.objs.size)) (PIE X pins σ tg R) E { s with heap := s.heap.push { cls := .type "range", data := .fields #[.int lo t, .int hi u, .int 1 v] }, toks := tk } := by
  have I1 : Inv X pins σ H { s with heap := s.heap.push { cls := .type "range", data := .fields #[.int lo t, .int hi u, .int 1 v] }, toks := tk } := I.kept fun b o e => Heap.get?_push_of_some _ e
  have e1 : lo + ((0 : Nat) : Int) * 1 = lo := by simp
  have e2 : (((hi - lo).toNat : Nat) : Int) - ((0 : Nat) : Int) = Builtin.Range.rangeSize lo hi 1 := by rw [rangeSize_one]; split <;> omega
  cases hs : Builtin.Range.small lo hi 1 with
  | true =>
    refine wpAny_pyIter_range (IsRange.new ..) hs ?_
    refine ⟨(s.heap.push { cls := .type "range", data := .fields #[.int lo t, .int hi u, .int 1 v] }).objs.size, [(s.heap.push { cls := .type "range", data := .fields #[.int lo t, .int hi u, .int 1 v] }).objs.size], _, _, H, rfl,
      I1.kept (t' := tk) fun b o e => Heap.get?_push_of_some _ e, turn_range _ lo (hi - lo).toNat, ?_, fun b hb => ?_, q⟩
    · show IsRangeIter _ _ (lo + ((0 : Nat) : Int) * 1) ((((hi - lo).toNat : Nat) : Int) - ((0 : Nat) : Int)) 1
      rw [e1, e2]
      exact Heap.get?_push_size _ rfl
    · have e : b = (s.heap.push { cls := .type "range", data := .fields #[.int lo t, .int hi u, .int 1 v] }).objs.size := by simpa using hb
      subst e
      exact I1.fpOk (Nat.le_refl _) (I1.hok.fresh (Nat.le_refl _))
  | false =>
    refine wpAny_pyIter_longrange (IsRange.new ..) hs ?_
    refine ⟨(s.heap.push { cls := .type "range", data := .fields #[.int lo t, .int hi u, .int 1 v] }).objs.size, [(s.heap.push { cls := .type "range", data := .fields #[.int lo t, .int hi u, .int 1 v] }).objs.size], _, _, H, rfl,
      I1.kept (t' := tk) fun b o e => Heap.get?_push_of_some _ e, turn_long _ lo (hi - lo).toNat, ?_, fun b hb => ?_, q⟩
    · show IsLongIter _ _ (lo + ((0 : Nat) : Int) * 1) ((((hi - lo).toNat : Nat) : Int) - ((0 : Nat) : Int)) 1
      rw [e1, e2]
      exact Heap.get?_push_size _ rfl
    · have e : b = (s.heap.push { cls := .type "range", data := .fields #[.int lo t, .int hi u, .int 1 v] }).objs.size := by simpa using hb
      subst e
      exact I1.fpOk (Nat.le_refl _) (I1.hok.fresh (Nat.le_refl _))
def iRngL1 (ta : TA) : TI := fun σ H R => ta σ H fun vs H1 => ∃ j : Int, vs = [.int j] ∧ R (Itr 0 j.toNat) H1
def iRngL2 (ta : TA) : TI := fun σ H R => ta σ H fun vs H1 => ∃ i j : Int, vs = [.int i, .int j] ∧ R (Itr i (j - i).toNat) H1
theorem pi_rangeL1 {X : Cx} {tg : Expr} {a : Expr} {ta : TA} {p pos : Pos} (hg : Gl X "range") (hm : X.mg "range" = none) (ha : PA X [a] ta) (hs : starEach [a] X.env = [(false, eval a X.env)] := by rfl) : PI X tg (.Call (.Name "range" p) [a] [] pos) (iRngL1 ta) := by
  refine ⟨fun pins s σ H R I h => ?_⟩
  refine Call_ (ld_blt I hg hm boot_range (PyProof.Rows.callWith_type1 (thn (ha.run pos pins s σ H _ I h) fun us s1 ⟨vs, H1, I1, r1, q1⟩ => ?_) hs rfl))
  obtain ⟨j, e, q⟩ := q1
  subst e
  cases r1 with
  | cons r rr =>
    cases rr
    obtain ⟨t, rfl⟩ := r
    exact call_range_1 (range_itL I1 (by simpa using q))
theorem pi_rangeL2 {X : Cx} {tg : Expr} {a b : Expr} {ta : TA} {p pos : Pos} (hg : Gl X "range") (hm : X.mg "range" = none) (ha : PA X [a, b] ta) (hs : starEach [a, b] X.env = [(false, eval a X.env), (false, eval b X.env)] := by rfl) (hs2 : starEach [b] X.env = [(false, eval b X.env)] := by rfl) :
    PI X tg (.Call (.Name "range" p) [a, b] [] pos) (iRngL2 ta) := by
  refine ⟨fun pins s σ H R I h => ?_⟩
  refine Call_ (ld_blt I hg hm boot_range (PyProof.Rows.callWith_type1 (thn (ha.run pos pins s σ H _ I h) fun us s1 ⟨vs, H1, I1, r1, q1⟩ => ?_) (by rw [hs, hs2]) (by rw [hs2]; rfl)))
  obtain ⟨i, j, e, q⟩ := q1
  subst e
  cases r1 with
  | cons r rr =>
    cases rr with
    | cons r' rr =>
      cases rr
      obtain ⟨t, rfl⟩ := r
      obtain ⟨t', rfl⟩ := r'
      exact call_range_2 (range_itL I1 q)
/-! ### objects of own classes -/
structure Mn (P : Program) (w : World) (K : PySem.W.Frag) (mg : Str → Option Value) (base : Heap) (CX : CXT) (k : Nat) (C : Addr) (x : Str) (ps : List Str) (sp : Sp) : Prop where
  ex : ∃ f fd, Mk K C f ∧ FnOk P w K mg base CX k f fd ps sp ∧ mg x = some (.ref C) ∧ Binds K fd ps []
structure Nn (P : Program) (w : World) (K : PySem.W.Frag) (mg : Str → Option Value) (base : Heap) (CX : CXT) (k : Nat) (C : Addr) (m : Str) (ps : List Str) (sp : Sp) : Prop where
  cl : Cls K C
  ex : ∃ f fd, Meth K C m f ∧ FnOk P w K mg base CX k f fd ps sp ∧ Binds K fd ps []
section
variable {X : Cx} {CX : CXT} {k : Nat} {C : Addr} {ps : List Str} {sp : Sp} {E : XK} {x m : Str} {p pos apos : Pos} {e o : Expr} {es : List Expr} {t : TA} {ta : TE}
theorem pe_mk (M : Mn X.prog X.w X.K X.mg X.base CX k C x ps sp) (hr : Room (k + 1) X.A) (hg : Gl X x) (hx : Passes CX X E) (ha : PA X (e :: es) t)
    (hdb : (x == ("__debug__" : Str)) = false := by decide) (he : starEach (e :: es) X.env = (false, eval e X.env) :: starEach es X.env := by rfl) (hpl : (backTo pos (starEach es X.env)).any (·.1) = false := by rfl) :
    PE X (.Call (.Name x p) (e :: es) [] pos) (tMake C sp [] E t) := by
  obtain ⟨f, fd, mk, F, hm, b⟩ := M.ex
  exact pe_make mk F hr hg hm b .nil hx ha hdb he hpl
theorem pe_mk0 (M : Mn X.prog X.w X.K X.mg X.base CX k C x ps sp) (hr : Room (k + 1) X.A) (hg : Gl X x) (hx : Passes CX X E)
    (hdb : (x == ("__debug__" : Str)) = false := by decide) : PE X (.Call (.Name x p) [] [] pos) (tMake C sp [] E tNil) := by
  obtain ⟨f, fd, mk, F, hm, b⟩ := M.ex
  exact pe_make0 mk F hr hg hm b .nil hx hdb
theorem pe_md {pl : Sem Bool} (ho : PE X o ta) (N : Nn X.prog X.w X.K X.mg X.base CX k C m ps sp) (hr : Room k X.A) (hx : Passes CX X E) (ha : PA X (e :: es) t)
    (hst : starEach (e :: es) X.env = (false, eval e X.env) :: starEach es X.env := by rfl) (hpl : (backTo pos (starEach es X.env)).any (·.1) = false := by rfl)
    (ht : eval (.Call (.Attribute o m apos) (e :: es) [] pos) X.env = (do
      let ov ← eval o X.env
      standAt apos.atName
      let (f, first) ← holding [ov] (getMethod ov m pl)
      callWith pos f first (backTo pos (starEach (e :: es) X.env)) (backToKw pos (keywordEach [] X.env))) := by rfl) : PE X (.Call (.Attribute o m apos) (e :: es) [] pos) (tMeth C m sp [] E ta t) := by
  obtain ⟨f, fd, hm, F, b⟩ := N.ex
  exact pe_meth ho N.cl hm F hr b .nil hx ha hst hpl ht
theorem pe_md0 {pl : Sem Bool} (ho : PE X o ta) (N : Nn X.prog X.w X.K X.mg X.base CX k C m ps sp) (hr : Room k X.A) (hx : Passes CX X E)
    (ht : eval (.Call (.Attribute o m apos) [] [] pos) X.env = (do
      let ov ← eval o X.env
      standAt apos.atName
      let (f, first) ← holding [ov] (getMethod ov m pl)
      callWith pos f first (backTo pos (starEach [] X.env)) (backToKw pos (keywordEach [] X.env))) := by rfl) : PE X (.Call (.Attribute o m apos) [] [] pos) (tMeth C m sp [] E ta tNil) := by
  obtain ⟨f, fd, hm, F, b⟩ := N.ex
  exact pe_meth0 ho N.cl hm F hr b .nil hx ht
end
def Made (H : Hp) (C : Addr) (R : Addr → Hp → Prop) : Prop := ∀ x dx, H x = none → H dx = none → dx ≠ x → R x (upd (upd H dx (.own x)) x (.ins C dx []))
theorem Made.intro {H : Hp} {C : Addr} {R : Addr → Hp → Prop} (h : ∀ x dx H2, H x = none → Same H H2 → H2 x = some (.ins C dx []) → R x H2) : Made H C R := fun x dx hx hd ne =>
  h x dx _ hx (fun b o e => by rw [upd_ne (ne_of_none e hx), upd_ne (ne_of_none e hd)]; exact e) upd_same
theorem tMake_n {C : Addr} {sp : Sp} {dvs : List V} {E : XK} {t : TA} : tMake C sp dvs E t = fun σ H Q => t σ H fun vs H1 => Made H1 C fun x H2 => sp (.ref x :: (vs ++ dvs)) H2 (fun v H3 => v = .non ∧ Q (.ref x) H3) E := rfl
theorem sFld_n {K : PySem.W.Frag} {ta tv : TE} {f : Str} : sFld K ta tv f = fun D σ H => tv σ H fun y H1 => ta σ H1 fun x H2 => ∃ a C dx fs, x = .ref a ∧ H2 a = some (.ins C dx fs) ∧ Cls K C ∧ NoAttr K C f ∧ fs.length < 1000 ∧
  Upd H2 a (.ins C dx (putF f y fs)) fun H3 => D.nx σ H3 := rfl
theorem ps_fldK {X : Cx} {K : PySem.W.Frag} {o value : Expr} {f : Str} {pos pos' : Pos} {ta tv : TE} (ha : PE X o ta) (hv : PE X value tv) (hs : swapsWith value (some (.Attribute o f pos')) pos.line X.env = pure false) (h : X.K = K := by rfl) : PS X (.Assign [.Attribute o f pos'] value pos) (sFld K ta tv f) := by subst h; exact ps_fld ha hv hs
theorem lk0 {f : Str} {v : V} {r : List (Str × V)} : List.lookup f ((f, v) :: r) = some v := by simp [List.lookup]
theorem lk1 {f g : Str} {v : V} {r : List (Str × V)} {o : Option V} (h : (g == f) = false) (k : List.lookup g r = o) : List.lookup g ((f, v) :: r) = o := by
  rw [List.lookup_cons, h]
  exact k
theorem putF0 {f : Str} {v x : V} {r : List (Str × V)} : putF f v ((f, x) :: r) = (f, v) :: r := by
  unfold putF
  rw [if_pos rfl]
theorem putF1 {f g : Str} {v x : V} {r : List (Str × V)} (h : ¬ g = f) : putF f v ((g, x) :: r) = (g, x) :: putF f v r := by
  show (if g = f then _ else _) = _
  rw [if_neg h]
def rInsert : V → List V → Hp → VK → Prop := fun x vs H Q => ∃ (l : Addr) (xs : List V) (i : Int) (y : V), x = .ref l ∧ vs = [.int i, y] ∧ H l = some (.lst xs) ∧ xs.length < sizeLine ∧ 0 ≤ i ∧ i < 2 ^ 63 ∧ Upd H l (.lst (xs.take i.toNat ++ [y] ++ xs.drop i.toNat)) fun H2 => Q .non H2
theorem mt_insertR {X : Cx} : MtR X "list.insert" rInsert := mt_insert
theorem rRemI_n : rRemI = fun x xs H Q => ∃ (l : Addr) (ns : List Int) (k : Int) (j : Nat), x = V.ref l ∧ xs = [V.int k] ∧ H l = some (.lst (ns.map V.int)) ∧ ns[j]? = some k ∧ (∀ m : Nat, m < j → ns[m]? ≠ some k) ∧ Upd H l (.lst ((ns.eraseIdx j).map V.int)) fun H2 => Q .non H2 := rfl
theorem inV_int (n : Int) : ∀ ns : List Int, inV (.int n) (ns.map V.int) = decide (n ∈ ns)
  | [] => rfl
  | a :: r => by
    have e : inV (.int n) ((a :: r).map V.int) = (eqV (.int a) (.int n) || inV (.int n) (r.map V.int)) := rfl
    rw [e, inV_int n r]
    have e2 : eqV (.int a) (.int n) = decide (a = n) := by
      unfold eqV
      rfl
    rw [e2]
    by_cases h : a = n
    · subst h
      simp
    · simp [h, Ne.symm h]
theorem flat_ints : ∀ ns : List Int, (ns.map V.int).all flatV = true
  | [] => rfl
  | _ :: r => flat_ints r

/-! ### loops by an invariant -/
theorem Loop.list {K : PySem.W.Frag} {a : Addr} {xs : List V} {g : TG} {tb : TS} {D : Ends} {σ : L2.St} {H : Hp} (Pv : Nat → L2.St → Hp → Prop) (h0 : Pv 0 σ H) (hl : ∀ i σ H, i ≤ xs.length → Pv i σ H → SqL K H a xs)
    (hs : ∀ i x σ H, xs[i]? = some x → Pv i σ H → g x σ H fun σ2 H2 => tb { D with nx := Pv (i + 1), ct := Pv (i + 1), bk := D.nx } σ2 H2) (hd : ∀ σ H, Pv xs.length σ H → D.nx σ H) : Loop (Itl K a) g tb D σ H := for_list Pv h0 hl hs hd
theorem Loop.tup {K : PySem.W.Frag} {a : Addr} {xs : List V} {g : TG} {tb : TS} {D : Ends} {σ : L2.St} {H : Hp} (Pv : Nat → L2.St → Hp → Prop) (h0 : Pv 0 σ H) (hl : ∀ i σ H, i ≤ xs.length → Pv i σ H → SqT K H a xs)
    (hs : ∀ i x σ H, xs[i]? = some x → Pv i σ H → g x σ H fun σ2 H2 => tb { D with nx := Pv (i + 1), ct := Pv (i + 1), bk := D.nx } σ2 H2) (hd : ∀ σ H, Pv xs.length σ H → D.nx σ H) : Loop (Itt K a) g tb D σ H := for_tup Pv h0 hl hs hd
theorem Loop.range {lo : Int} {n : Nat} {g : TG} {tb : TS} {D : Ends} {σ : L2.St} {H : Hp} (Pv : Nat → L2.St → Hp → Prop) (h0 : Pv 0 σ H)
    (hs : ∀ i σ H, i < n → Pv i σ H → g (.int (lo + i)) σ H fun σ2 H2 => tb { D with nx := Pv (i + 1), ct := Pv (i + 1), bk := D.nx } σ2 H2) (hd : ∀ σ H, Pv n σ H → D.nx σ H) : Loop (Itr lo n) g tb D σ H := for_range Pv h0 hs hd
theorem Loop.rev {K : PySem.W.Frag} {a : Addr} {xs : List V} {n : Nat} {g : TG} {tb : TS} {D : Ends} {σ : L2.St} {H : Hp} (hn : n = xs.length) (Pv : Nat → L2.St → Hp → Prop) (h0 : Pv 0 σ H) (hl : ∀ i σ H, i ≤ xs.length → Pv i σ H → SqL K H a xs)
    (hs : ∀ i x σ H, xs[xs.length - 1 - i]? = some x → i < xs.length → Pv i σ H → g x σ H fun σ2 H2 => tb { D with nx := Pv (i + 1), ct := Pv (i + 1), bk := D.nx } σ2 H2) (hd : ∀ σ H, Pv xs.length σ H → D.nx σ H) : Loop (Itv K a n) g tb D σ H := by
  subst hn
  refine ⟨fun i m σ H => m = xs.length - i ∧ i ≤ xs.length ∧ Pv i σ H, ⟨xs.length, by simp, Nat.zero_le _, h0⟩, ?_⟩
  rintro i m σ H ⟨rfl, hi, p⟩
  have q := hl i σ H hi p
  by_cases hlt : i < xs.length
  · have hx : xs.length - 1 - i < xs.length := by omega
    refine .inr ⟨⟨hlt, xs, xs[xs.length - 1 - i], q, by simp [hx]⟩, Pv (i + 1), fun σ' H' p' => ⟨xs.length - (i + 1), by omega, rfl, hlt, p'⟩, fun x H' y => ?_⟩
    obtain ⟨e, y⟩ := y
    subst e
    exact hs i x σ _ (y xs q) hlt p
  · have e : i = xs.length := by omega
    subst e
    exact .inl ⟨Nat.le_refl _, hd σ H p⟩
theorem Loop.enum {K : PySem.W.Frag} {a : Addr} {xs : List V} {g : TG} {tb : TS} {D : Ends} {σ : L2.St} {H : Hp} (Pv : Nat → L2.St → Hp → Prop) (h0 : Pv 0 σ H) (hl : ∀ i σ H, i ≤ xs.length → Pv i σ H → SqL K H a xs)
    (hs : ∀ i x σ H T H1, xs[i]? = some x → Pv i σ H → H T = none → Same H H1 → H1 T = some (.tup [.int (i : Nat), x]) → g (.ref T) σ H1 fun σ2 H2 => tb { D with nx := Pv (i + 1), ct := Pv (i + 1), bk := D.nx } σ2 H2) (hd : ∀ σ H, Pv xs.length σ H → D.nx σ H) : Loop (Ite K a) g tb D σ H := by
  refine ⟨fun i m σ H => m = xs.length - i ∧ i ≤ xs.length ∧ Pv i σ H, ⟨xs.length, by simp, Nat.zero_le _, h0⟩, ?_⟩
  rintro i m σ H ⟨rfl, hi, p⟩
  have q := hl i σ H hi p
  by_cases hlt : i < xs.length
  · refine .inr ⟨⟨xs, xs[i], q, by simp [hlt]⟩, Pv (i + 1), fun σ' H' p' => ⟨xs.length - (i + 1), by omega, rfl, hlt, p'⟩, fun v H' y => ?_⟩
    obtain ⟨T, x, rfl, nT, rfl, f⟩ := y
    exact hs i x σ H T _ (f xs q) p nT (same_new nT) upd_same
  · have e : i = xs.length := by omega
    subst e
    exact .inl ⟨⟨xs, q, Nat.le_refl _⟩, hd σ H p⟩
theorem Loop.zip {K : PySem.W.Frag} {a b : Addr} {xs ys : List V} {g : TG} {tb : TS} {D : Ends} {σ : L2.St} {H : Hp} (hn : xs.length = ys.length) (Pv : Nat → L2.St → Hp → Prop) (h0 : Pv 0 σ H) (hl : ∀ i σ H, i ≤ xs.length → Pv i σ H → SqL K H a xs ∧ SqL K H b ys)
    (hs : ∀ i x y σ H T H1, xs[i]? = some x → ys[i]? = some y → Pv i σ H → H T = none → Same H H1 → H1 T = some (.tup [x, y]) → g (.ref T) σ H1 fun σ2 H2 => tb { D with nx := Pv (i + 1), ct := Pv (i + 1), bk := D.nx } σ2 H2) (hd : ∀ σ H, Pv xs.length σ H → D.nx σ H) : Loop (Itz K a b) g tb D σ H := by
  refine ⟨fun i m σ H => m = xs.length - i ∧ i ≤ xs.length ∧ Pv i σ H, ⟨xs.length, by simp, Nat.zero_le _, h0⟩, ?_⟩
  rintro i m σ H ⟨rfl, hi, p⟩
  have q := hl i σ H hi p
  by_cases hlt : i < xs.length
  · refine .inr ⟨⟨xs, ys, xs[i], ys[i]'(by omega), q.1, q.2, by simp [hlt], by simp [show i < ys.length by omega]⟩, Pv (i + 1), fun σ' H' p' => ⟨xs.length - (i + 1), by omega, rfl, hlt, p'⟩, fun v H' y => ?_⟩
    obtain ⟨T, x, y, rfl, nT, rfl, f1, f2⟩ := y
    exact hs i x y σ H T _ (f1 xs q.1) (f2 ys q.2) p nT (same_new nT) upd_same
  · have e : i = xs.length := by omega
    subst e
    exact .inl ⟨⟨xs, ys, q.1, q.2, .inl (Nat.le_refl _)⟩, hd σ H p⟩
theorem Loop.str {z : Str} {g : TG} {tb : TS} {D : Ends} {σ : L2.St} {H : Hp} (Pv : Nat → L2.St → Hp → Prop) (h0 : Pv 0 σ H)
    (hs : ∀ i c σ H, z.cps[i]? = some c → Pv i σ H → g (.str ⟨#[c]⟩) σ H fun σ2 H2 => tb { D with nx := Pv (i + 1), ct := Pv (i + 1), bk := D.nx } σ2 H2) (hd : ∀ σ H, Pv z.cps.size σ H → D.nx σ H) : Loop (Its z) g tb D σ H := by
  refine ⟨fun i m σ H => m = z.cps.size - i ∧ i ≤ z.cps.size ∧ Pv i σ H, ⟨z.cps.size, by simp, Nat.zero_le _, h0⟩, ?_⟩
  rintro i m σ H ⟨rfl, hi, p⟩
  by_cases hlt : i < z.cps.size
  · refine .inr ⟨hlt, Pv (i + 1), fun σ' H' p' => ⟨z.cps.size - (i + 1), by omega, rfl, hlt, p'⟩, fun x H' y => ?_⟩
    obtain ⟨e, c, hc, ex⟩ := y
    subst e ex
    exact hs i c σ _ hc p
  · have e : i = z.cps.size := by omega
    subst e
    exact .inl ⟨Nat.le_refl _, hd σ H p⟩

theorem int_at {ns : List Int} {i : Nat} {x : V} (h : (ns.map V.int)[i]? = some x) : ∃ z, ns[i]? = some z ∧ x = .int z := by
  rw [List.getElem?_map] at h
  cases e : ns[i]? with
  | none =>
    rw [e] at h
    cases h
  | some z =>
    rw [e] at h
    exact ⟨z, rfl, (Option.some.inj h).symm⟩
theorem at_int {ns : List Int} {i : Nat} {z : Int} (h : ns[i]? = some z) : (ns.map V.int)[i]? = some (.int z) := by
  rw [List.getElem?_map, h]
  rfl
theorem take_snoc {α : Type} {l : List α} {i : Nat} {x : α} (h : l[i]? = some x) : l.take (i + 1) = l.take i ++ [x] := by
  rw [List.take_add_one, h]
  rfl
theorem drop_at {α : Type} {l : List α} {i : Nat} {x : α} (h : l[i]? = some x) : l.drop i = x :: l.drop (i + 1) := by
  obtain ⟨hi, e⟩ := List.getElem?_eq_some_iff.mp h
  rw [List.drop_eq_getElem_cons hi, e]
theorem iteN {c A B : Prop} [Decidable c] (hc : ¬ c) (h : B) : if c then A else B := by
  rw [if_neg hc]
  exact h
theorem iteP {c A B : Prop} [Decidable c] (hc : c) (h : A) : if c then A else B := by
  rw [if_pos hc]
  exact h
/-! ### comprehensions -/
/-- what is made so far stands at D; the source stands; an element may change what it likes but D -/
theorem Cmp.list {K : PySem.W.Frag} {a : Addr} {xs : List V} {g : TG} {tt : TT} {te : TE} {vs : List Nat} {σ : L2.St} {H1 : Hp} {Q : VK} (Pv : Addr → Nat → List V → Hp → Prop)
    (h0 : ∀ D H2, H1 D = none → Same H1 H2 → H2 D = some (.lst []) → Pv D 0 [] H2) (hl : ∀ D i acc H, i ≤ xs.length → Pv D i acc H → SqL K H a xs)
    (hs : ∀ D i x acc H (Nx : Hp → Prop), xs[i]? = some x → acc.length ≤ i → Pv D i acc H → (∀ acc' H', acc'.length ≤ i + 1 → Pv D (i + 1) acc' H' → Nx H') → g x (wipe σ vs) H fun σ2 H2 => wipe σ2 vs = wipe σ vs ∧ tt σ2 H2 fun b H3 =>
      if b = true then te σ2 H3 fun y H4 => ∃ acc, H4 D = some (.lst acc) ∧ acc.length < sizeLine ∧ Nx (upd H4 D (.lst (acc ++ [y]))) else Nx H3) (hd : ∀ D acc H, acc.length ≤ xs.length → Pv D xs.length acc H → Q (.ref D) H) : Cmp (Itl K a) g tt te vs σ H1 Q := fun D nD =>
  lc_list (K := K) (a := a) (xs := xs) (fun i H => ∃ acc, acc.length ≤ i ∧ Pv D i acc H) ⟨[], Nat.zero_le _, h0 D _ nD (same_new nD) upd_same⟩ (fun i H hi ⟨acc, _, p⟩ => hl D i acc H hi p)
    (fun i x H hx ⟨acc, ha, p⟩ => hs D i x acc H _ hx ha p fun acc' H' h1 h2 => ⟨acc', h1, h2⟩) (fun H ⟨acc, ha, p⟩ => hd D acc H ha p)
theorem Cmp.tup {K : PySem.W.Frag} {a : Addr} {xs : List V} {g : TG} {tt : TT} {te : TE} {vs : List Nat} {σ : L2.St} {H1 : Hp} {Q : VK} (Pv : Addr → Nat → List V → Hp → Prop)
    (h0 : ∀ D H2, H1 D = none → Same H1 H2 → H2 D = some (.lst []) → Pv D 0 [] H2) (hl : ∀ D i acc H, i ≤ xs.length → Pv D i acc H → SqT K H a xs)
    (hs : ∀ D i x acc H (Nx : Hp → Prop), xs[i]? = some x → acc.length ≤ i → Pv D i acc H → (∀ acc' H', acc'.length ≤ i + 1 → Pv D (i + 1) acc' H' → Nx H') → g x (wipe σ vs) H fun σ2 H2 => wipe σ2 vs = wipe σ vs ∧ tt σ2 H2 fun b H3 =>
      if b = true then te σ2 H3 fun y H4 => ∃ acc, H4 D = some (.lst acc) ∧ acc.length < sizeLine ∧ Nx (upd H4 D (.lst (acc ++ [y]))) else Nx H3) (hd : ∀ D acc H, acc.length ≤ xs.length → Pv D xs.length acc H → Q (.ref D) H) : Cmp (Itt K a) g tt te vs σ H1 Q := fun D nD =>
  lc_tup (K := K) (a := a) (xs := xs) (fun i H => ∃ acc, acc.length ≤ i ∧ Pv D i acc H) ⟨[], Nat.zero_le _, h0 D _ nD (same_new nD) upd_same⟩ (fun i H hi ⟨acc, _, p⟩ => hl D i acc H hi p)
    (fun i x H hx ⟨acc, ha, p⟩ => hs D i x acc H _ hx ha p fun acc' H' h1 h2 => ⟨acc', h1, h2⟩) (fun H ⟨acc, ha, p⟩ => hd D acc H ha p)
theorem Cmp.range {lo : Int} {n : Nat} {g : TG} {tt : TT} {te : TE} {vs : List Nat} {σ : L2.St} {H1 : Hp} {Q : VK} (Pv : Addr → Nat → List V → Hp → Prop)
    (h0 : ∀ D H2, H1 D = none → Same H1 H2 → H2 D = some (.lst []) → Pv D 0 [] H2)
    (hs : ∀ D i acc H (Nx : Hp → Prop), i < n → acc.length ≤ i → Pv D i acc H → (∀ acc' H', acc'.length ≤ i + 1 → Pv D (i + 1) acc' H' → Nx H') → g (.int (lo + i)) (wipe σ vs) H fun σ2 H2 => wipe σ2 vs = wipe σ vs ∧ tt σ2 H2 fun b H3 =>
      if b = true then te σ2 H3 fun y H4 => ∃ acc, H4 D = some (.lst acc) ∧ acc.length < sizeLine ∧ Nx (upd H4 D (.lst (acc ++ [y]))) else Nx H3) (hd : ∀ D acc H, acc.length ≤ n → Pv D n acc H → Q (.ref D) H) : Cmp (Itr lo n) g tt te vs σ H1 Q := fun D nD =>
  lc_range (lo := lo) (n := n) (fun i H => ∃ acc, acc.length ≤ i ∧ Pv D i acc H) ⟨[], Nat.zero_le _, h0 D _ nD (same_new nD) upd_same⟩
    (fun i H hx ⟨acc, ha, p⟩ => hs D i acc H _ hx ha p fun acc' H' h1 h2 => ⟨acc', h1, h2⟩) (fun H ⟨acc, ha, p⟩ => hd D acc H ha p)
theorem push {D : Addr} {i : Nat} {acc : List V} {y : V} {H4 : Hp} {Nx : Hp → Prop} {PV : List V → Hp → Prop} (hN : ∀ acc' H', acc'.length ≤ i + 1 → PV acc' H' → Nx H') (ha : acc.length ≤ i) (h : H4 D = some (.lst acc)) (hi : i < 1000000)
    (hp : ∀ H5, Off D H4 H5 → H5 D = some (.lst (acc ++ [y])) → PV (acc ++ [y]) H5) : ∃ acc, H4 D = some (.lst acc) ∧ acc.length < sizeLine ∧ Nx (upd H4 D (.lst (acc ++ [y]))) :=
  ⟨acc, h, Nat.lt_of_lt_of_le (Nat.lt_of_le_of_lt ha hi) (by decide), hN _ _ (by rw [List.length_append]; exact Nat.succ_le_succ ha) (hp _ Off.upd upd_same)⟩
/-- elements that change nothing, over a list; with a test -/
theorem Cmp.pureF {K : PySem.W.Frag} {a : Addr} {xs : List V} {j : Nat} {tt : TT} {te : TE} {vs : List Nat} {σ : L2.St} {H1 : Hp} {Q : VK} (p : V → Bool) (f : V → V) (hS : SqL K H1 a xs) (hz : xs.length ≤ 100000) (hw : ∀ x, wipe ((wipe σ vs).set j (some x)) vs = wipe σ vs)
    (ht : ∀ x H2 (R : Bool → Hp → Prop), x ∈ xs → Same H1 H2 → (∀ H3, Same H2 H3 → R (p x) H3) → tt ((wipe σ vs).set j (some x)) H2 R)
    (he : ∀ x H2 (R : VK), x ∈ xs → p x = true → Same H1 H2 → (∀ H3, Same H2 H3 → R (f x) H3) → te ((wipe σ vs).set j (some x)) H2 R)
    (hd : ∀ l H2, H1 l = none → Same H1 H2 → H2 l = some (.lst ((xs.filter p).map f)) → Q (.ref l) H2) : Cmp (Itl K a) (gName j) tt te vs σ H1 Q := by
  refine Cmp.list (xs := xs) (fun D i acc H => H1 D = none ∧ Same H1 H ∧ H D = some (.lst acc) ∧ acc = ((xs.take i).filter p).map f) (fun D H2 nD s2 h2 => ⟨nD, s2, h2, by simp⟩) (fun D i acc H _ ⟨_, s2, _⟩ => s2.seq hS) ?_ ?_
  · rintro D i x acc H Nx hx ha ⟨nD, s2, h2, ea⟩ hN
    have hi : i < xs.length := (List.getElem?_eq_some_iff.mp hx).1
    have hm := List.mem_of_getElem? hx
    refine ⟨hw x, ht x H _ hm s2 fun H3 s3 => ?_⟩
    cases hp : p x with
    | true =>
      rw [if_pos rfl]
      refine he x H3 _ hm hp (s2.trans s3) fun H4 s4 => push hN ha (s4 _ _ (s3 _ _ h2)) (by omega) fun H5 o5 h5 => ⟨nD, Same.off ((s2.trans s3).trans s4) nD o5, h5, ?_⟩
      rw [ea, take_snoc hx, List.filter_append, List.map_append]
      simp [hp]
    | false =>
      rw [if_neg Bool.false_ne_true]
      refine hN acc H3 (Nat.le_succ_of_le ha) ⟨nD, s2.trans s3, s3 _ _ h2, ?_⟩
      rw [ea, take_snoc hx, List.filter_append, List.map_append]
      simp [hp]
  · rintro D acc H _ ⟨nD, s2, h2, ea⟩
    rw [List.take_length] at ea
    exact hd D H nD s2 (ea ▸ h2)
theorem Cmp.pureL {K : PySem.W.Frag} {a : Addr} {xs : List V} {j : Nat} {te : TE} {vs : List Nat} {σ : L2.St} {H1 : Hp} {Q : VK} (f : V → V) (hS : SqL K H1 a xs) (hz : xs.length ≤ 100000) (hw : ∀ x, wipe ((wipe σ vs).set j (some x)) vs = wipe σ vs)
    (he : ∀ x H2 (R : VK), x ∈ xs → Same H1 H2 → (∀ H3, Same H2 H3 → R (f x) H3) → te ((wipe σ vs).set j (some x)) H2 R)
    (hd : ∀ l H2, H1 l = none → Same H1 H2 → H2 l = some (.lst (xs.map f)) → Q (.ref l) H2) : Cmp (Itl K a) (gName j) tYes te vs σ H1 Q :=
  Cmp.pureF (fun _ => true) f hS hz hw (fun x H2 R _ _ h => h H2 (Same.refl H2)) (fun x H2 R hm _ => he x H2 R hm) fun l H2 n s h => hd l H2 n s (by rw [List.filter_eq_self.mpr (fun _ _ => rfl)] at h; exact h)
theorem Cmp.pureRF {lo : Int} {n : Nat} {j : Nat} {tt : TT} {te : TE} {vs : List Nat} {σ : L2.St} {H1 : Hp} {Q : VK} (p : Nat → Bool) (f : Nat → V) (hz : n ≤ 100000) (hw : ∀ x, wipe ((wipe σ vs).set j (some x)) vs = wipe σ vs)
    (ht : ∀ i H2 (R : Bool → Hp → Prop), i < n → Same H1 H2 → (∀ H3, Same H2 H3 → R (p i) H3) → tt ((wipe σ vs).set j (some (.int (lo + (i : Int))))) H2 R)
    (he : ∀ i H2 (R : VK), i < n → p i = true → Same H1 H2 → (∀ H3, Same H2 H3 → R (f i) H3) → te ((wipe σ vs).set j (some (.int (lo + (i : Int))))) H2 R)
    (hd : ∀ l H2, H1 l = none → Same H1 H2 → H2 l = some (.lst (((List.range n).filter p).map f)) → Q (.ref l) H2) : Cmp (Itr lo n) (gName j) tt te vs σ H1 Q := by
  refine Cmp.range (fun D i acc H => H1 D = none ∧ Same H1 H ∧ H D = some (.lst acc) ∧ acc = ((List.range i).filter p).map f) (fun D H2 nD s2 h2 => ⟨nD, s2, h2, by simp⟩) ?_ ?_
  · rintro D i acc H Nx hi ha ⟨nD, s2, h2, ea⟩ hN
    refine ⟨hw _, ht i H _ hi s2 fun H3 s3 => ?_⟩
    cases hp : p i with
    | true =>
      rw [if_pos rfl]
      refine he i H3 _ hi hp (s2.trans s3) fun H4 s4 => push hN ha (s4 _ _ (s3 _ _ h2)) (by omega) fun H5 o5 h5 => ⟨nD, Same.off ((s2.trans s3).trans s4) nD o5, h5, ?_⟩
      rw [ea, List.range_succ, List.filter_append, List.map_append]
      simp [hp]
    | false =>
      rw [if_neg Bool.false_ne_true]
      refine hN acc H3 (Nat.le_succ_of_le ha) ⟨nD, s2.trans s3, s3 _ _ h2, ?_⟩
      rw [ea, List.range_succ, List.filter_append, List.map_append]
      simp [hp]
  · rintro D acc H _ ⟨nD, s2, h2, ea⟩
    exact hd D H nD s2 (ea ▸ h2)
theorem Cmp.pureR {lo : Int} {n : Nat} {j : Nat} {te : TE} {vs : List Nat} {σ : L2.St} {H1 : Hp} {Q : VK} (f : Nat → V) (hz : n ≤ 100000) (hw : ∀ x, wipe ((wipe σ vs).set j (some x)) vs = wipe σ vs)
    (he : ∀ i H2 (R : VK), i < n → Same H1 H2 → (∀ H3, Same H2 H3 → R (f i) H3) → te ((wipe σ vs).set j (some (.int (lo + (i : Int))))) H2 R)
    (hd : ∀ l H2, H1 l = none → Same H1 H2 → H2 l = some (.lst ((List.range n).map f)) → Q (.ref l) H2) : Cmp (Itr lo n) (gName j) tYes te vs σ H1 Q :=
  Cmp.pureRF (fun _ => true) f hz hw (fun x H2 R _ _ h => h H2 (Same.refl H2)) (fun x H2 R hm _ => he x H2 R hm) fun l H2 n s h => hd l H2 n s (by rw [List.filter_eq_self.mpr (fun _ _ => rfl)] at h; exact h)

theorem sq_true {K : PySem.W.Frag} {H : Hp} {l : Addr} {α : Type} {ys : List α} (h : H l = some (.lst (ys.map fun _ => V.bl true))) : SqL K H l ((ys.map fun _ => true).map V.bl) := by
  rw [List.map_map]
  exact seq_of h
theorem all_true {α : Type} : ∀ ys : List α, (ys.map fun _ => true).all id = true
  | [] => rfl
  | _ :: r => all_true r
theorem cut_to (xs : List V) (j : Nat) : cutV xs none (some (j : Int)) = xs.take j := by
  unfold cutV
  rw [HT.sIx_none, HT.sIx_nat, List.drop_zero, Nat.sub_zero]
  by_cases h : j ≤ xs.length
  · rw [Nat.min_eq_left h]
  · rw [Nat.min_eq_right (by omega), List.take_of_length_le (Nat.le_refl _), List.take_of_length_le (by omega)]
theorem cut_from (xs : List V) (j : Nat) : cutV xs (some (j : Int)) none = xs.drop j := by
  unfold cutV
  rw [HT.sIx_none, HT.sIx_nat]
  by_cases h : j ≤ xs.length
  · rw [Nat.min_eq_left h, List.take_of_length_le (by rw [List.length_drop]; omega)]
  · rw [Nat.min_eq_right (by omega), List.drop_eq_nil_of_le (Nat.le_refl _), List.drop_eq_nil_of_le (by omega), List.take_nil]

/-! ### data -/
def pd : V → PyData
  | .bl b => .bool b
  | .int i => .int i
  | .str x => .str x
  | _ => .none
def isPd : V → Bool
  | .bl _ => true
  | .int _ => true
  | .str x => PyData.strOk x
  | .non => true
  | _ => false
theorem dp_pd {K : PySem.W.Frag} {H : Hp} : ∀ {x : V}, isPd x = true → Dp K H x (pd x)
  | .non, _ => .non
  | .bl b, _ => .bl b
  | .int i, _ => .int i
  | .str x, _ => .str x
theorem dpAll_pd {K : PySem.W.Frag} {H : Hp} : ∀ {xs : List V}, xs.all isPd = true → DpAll K H xs (xs.map pd)
  | [], _ => .nil
  | x :: xs, h => by
    rw [List.all_cons, Bool.and_eq_true] at h
    exact .cons (dp_pd h.1) (dpAll_pd h.2)
theorem ints_pd : ∀ ns : List Int, (ns.map V.int).all isPd = true
  | [] => rfl
  | _ :: r => ints_pd r
theorem dp_lst {K : PySem.W.Frag} {H : Hp} {a : Addr} {xs : List V} (h : SqL K H a xs) (hx : xs.all isPd = true) : Dp K H (.ref a) (.list (xs.map pd)) := .lst h (dpAll_pd hx)
theorem dp_tup {K : PySem.W.Frag} {H : Hp} {a : Addr} {xs : List V} (h : SqT K H a xs) (hx : xs.all isPd = true) : Dp K H (.ref a) (.tuple (xs.map pd)) := .tup h (dpAll_pd hx)
theorem pd_lay : ∀ {x : V}, isPd x = true → (pd x).canLay0 = true
  | .non, _ => rfl
  | .bl _, _ => rfl
  | .int _, _ => rfl
  | .str x, h => h
theorem pd_layAll : ∀ {xs : List V}, xs.all isPd = true → PyData.canLayAll0 (xs.map pd) = true
  | [], _ => rfl
  | x :: xs, h => by
    rw [List.all_cons, Bool.and_eq_true] at h
    show ((pd x).canLay0 && PyData.canLayAll0 (xs.map pd)) = true
    rw [pd_lay h.1, pd_layAll h.2]
    rfl
theorem pd_depth : ∀ x : V, (pd x).depth = 0
  | .non => rfl
  | .bl _ => rfl
  | .int _ => rfl
  | .str _ => rfl
  | .byt _ => rfl
  | .flt _ => rfl
  | .ref _ => rfl
  | .ty _ => rfl

theorem pd_depthAll : ∀ xs : List V, PyData.depthAll (xs.map pd) = 0
  | [] => rfl
  | x :: xs => by
    show max (pd x).depth (PyData.depthAll (xs.map pd)) = 0
    rw [pd_depth, pd_depthAll]
    rfl
theorem shaped_lst {xs : List V} (h : xs.all isPd = true) : SeqAt.shaped (.list (xs.map pd)) = true := by
  have e : (PyData.list (xs.map pd)).depth = 1 := by
    show PyData.depthAll (xs.map pd) + 1 = 1
    rw [pd_depthAll]
  show ((PyData.canLayAll0 (xs.map pd)) && decide ((PyData.list (xs.map pd)).depth ≤ 64)) = true
  rw [pd_layAll h, e]
  rfl
theorem shaped_tup {xs : List V} (h : xs.all isPd = true) : SeqAt.shaped (.tuple (xs.map pd)) = true := by
  have e : (PyData.tuple (xs.map pd)).depth = 1 := by
    show PyData.depthAll (xs.map pd) + 1 = 1
    rw [pd_depthAll]
  show ((PyData.canLayAll0 (xs.map pd)) && decide ((PyData.tuple (xs.map pd)).depth ≤ 64)) = true
  rw [pd_layAll h, e]
  rfl
theorem eqvAll_ints : ∀ ns ms : List Int, PyData.eqvAll ((ns.map V.int).map pd) ((ms.map V.int).map pd) = decide (ns = ms)
  | [], [] => rfl
  | [], _ :: _ => rfl
  | _ :: _, [] => rfl
  | a :: r, b :: t => by
    show ((a == b) && PyData.eqvAll ((r.map V.int).map pd) ((t.map V.int).map pd)) = decide (a :: r = b :: t)
    rw [eqvAll_ints r t]
    by_cases h : a = b
    · subst h
      simp
    · simp [h]
theorem eqv_ints (ns ms : List Int) : PyData.eqv (.list ((ns.map V.int).map pd)) (.list ((ms.map V.int).map pd)) = decide (ns = ms) := eqvAll_ints ns ms
/-- == of two lists of ints -/
theorem eq_ints {K : PySem.W.Frag} {H : Hp} {a b : Addr} {ns ms : List Int} {Q : VK} (ha : SqL K H a (ns.map V.int)) (hb : SqL K H b (ms.map V.int)) (q : Q (.bl (decide (ns = ms))) H) : rEqD K (.ref a) (.ref b) H Q :=
  ⟨_, _, dp_lst ha (ints_pd ns), dp_lst hb (ints_pd ms), shaped_lst (ints_pd ns), shaped_lst (ints_pd ms), by rw [eqv_ints]; exact q⟩
theorem ne_ints {K : PySem.W.Frag} {H : Hp} {a b : Addr} {ns ms : List Int} {Q : VK} (ha : SqL K H a (ns.map V.int)) (hb : SqL K H b (ms.map V.int)) (q : Q (.bl (!decide (ns = ms))) H) : rNeD K (.ref a) (.ref b) H Q :=
  ⟨_, _, dp_lst ha (ints_pd ns), dp_lst hb (ints_pd ms), shaped_lst (ints_pd ns), shaped_lst (ints_pd ms), by rw [eqv_ints]; exact q⟩
/-- == of equal data -/
theorem eq_tups {K : PySem.W.Frag} {H : Hp} {a b : Addr} {xs : List V} {Q : VK} (ha : SqT K H a xs) (hb : SqT K H b xs) (hx : xs.all isPd = true) (q : Q (.bl true) H) : rEqD K (.ref a) (.ref b) H Q :=
  ⟨_, _, dp_tup ha hx, dp_tup hb hx, shaped_tup hx, shaped_tup hx, by rw [SeqAt.eqv_refl (.tuple (xs.map pd)) (show PyData.canLayAll0 (xs.map pd) = true from pd_layAll hx)]; exact q⟩

/-- the type of a list, of a tuple, of an int that is told -/
theorem tyv_list {K : PySem.W.Frag} {H : Hp} {a : Addr} {xs : List V} (h : SqL K H a xs) : tyV K "list" (.ref a) H := .inl ⟨rfl, _, h⟩
theorem ty_int {K : PySem.W.Frag} {H : Hp} {i : Int} : TyX K H (.int i) (.type "int") := .base (.int i)
theorem ty_lst {K : PySem.W.Frag} {H : Hp} {a : Addr} {xs : List V} (h : H a = some (.lst xs)) : TyX K H (.ref a) (.type "list") := .base (.lst h)
theorem ty_tup {K : PySem.W.Frag} {H : Hp} {a : Addr} {xs : List V} (h : H a = some (.tup xs)) : TyX K H (.ref a) (.type "tuple") := .base (.tup h)

theorem scal_ii {i j : Int} : scal (.int i) (.int j) = true := rfl
theorem scal_bb {i j : Bool} : scal (.bl i) (.bl j) = true := rfl
theorem scal_ss {i j : Str} : scal (.str i) (.str j) = true := rfl
theorem scal_nn : scal .non .non = true := rfl
theorem scal_ni {j : Int} : scal .non (.int j) = true := rfl
theorem scal_in {j : Int} : scal (.int j) .non = true := rfl
theorem scal_ns {j : Str} : scal .non (.str j) = true := rfl
theorem scal_sn {j : Str} : scal (.str j) .non = true := rfl
theorem scal_is {i : Int} {j : Str} : scal (.int i) (.str j) = true := rfl
theorem scal_si {i : Int} {j : Str} : scal (.str j) (.int i) = true := rfl

/-! == of lists of tuples -/
def pdT (d : List V) : PyData := .tuple (d.map pd)
theorem dp_tups {K : PySem.W.Frag} {H : Hp} : ∀ {xs : List V} {ds : List (List V)}, Tups K H xs ds → (∀ d ∈ ds, d.all isPd = true) → DpAll K H xs (ds.map pdT)
  | _, _, .nil, _ => .nil
  | _, _, .cons (b := d) ⟨a, e, h⟩ t, hd => by
    subst e
    exact .cons (dp_tup h (hd d List.mem_cons_self)) (dp_tups t fun d h => hd d (List.mem_cons_of_mem _ h))
theorem lay_tups : ∀ {ds : List (List V)}, (∀ d ∈ ds, d.all isPd = true) → PyData.canLayAll0 (ds.map pdT) = true
  | [], _ => rfl
  | d :: r, h => by
    show (PyData.canLayAll0 (d.map pd) && PyData.canLayAll0 (r.map pdT)) = true
    rw [pd_layAll (h d List.mem_cons_self), lay_tups fun d hd => h d (List.mem_cons_of_mem _ hd)]
    rfl
theorem depth_tups : ∀ ds : List (List V), PyData.depthAll (ds.map pdT) ≤ 1
  | [] => by show 0 ≤ 1; decide
  | d :: r => by
    show max (PyData.depthAll (d.map pd) + 1) (PyData.depthAll (r.map pdT)) ≤ 1
    rw [pd_depthAll]
    have := depth_tups r
    omega
theorem shaped_tups {ds : List (List V)} (h : ∀ d ∈ ds, d.all isPd = true) : SeqAt.shaped (.list (ds.map pdT)) = true := by
  have e : (PyData.list (ds.map pdT)).depth ≤ 64 := by
    show PyData.depthAll (ds.map pdT) + 1 ≤ 64
    have := depth_tups ds
    omega
  show ((PyData.canLayAll0 (ds.map pdT)) && decide ((PyData.list (ds.map pdT)).depth ≤ 64)) = true
  rw [lay_tups h, decide_eq_true e]
  rfl
theorem eqv_tups {ds : List (List V)} (h : ∀ d ∈ ds, d.all isPd = true) : PyData.eqv (.list (ds.map pdT)) (.list (ds.map pdT)) = true := SeqAt.eqv_refl (.list (ds.map pdT)) (show PyData.canLayAll0 (ds.map pdT) = true from lay_tups h)
theorem eq_tupsL {K : PySem.W.Frag} {H : Hp} {a b : Addr} {xs ys : List V} {ds : List (List V)} {Q : VK} (ha : SqL K H a xs) (hb : SqL K H b ys) (t : Tups K H xs ds) (u : Tups K H ys ds) (hd : ∀ d ∈ ds, d.all isPd = true) (q : Q (.bl true) H) : rEqD K (.ref a) (.ref b) H Q :=
  ⟨_, _, .lst ha (dp_tups t hd), .lst hb (dp_tups u hd), shaped_tups hd, shaped_tups hd, by rw [eqv_tups hd]; exact q⟩
theorem ne_tupsL {K : PySem.W.Frag} {H : Hp} {a b : Addr} {xs ys : List V} {ds : List (List V)} {Q : VK} (ha : SqL K H a xs) (hb : SqL K H b ys) (t : Tups K H xs ds) (u : Tups K H ys ds) (hd : ∀ d ∈ ds, d.all isPd = true) (q : Q (.bl false) H) : rNeD K (.ref a) (.ref b) H Q :=
  ⟨_, _, .lst ha (dp_tups t hd), .lst hb (dp_tups u hd), shaped_tups hd, shaped_tups hd, by rw [eqv_tups hd]; exact q⟩

/-! ### list + list, whoever holds them -/
def rCatR (K : PySem.W.Frag) : R2 := fun x y H Q => ∃ l b xs zs, x = .ref l ∧ y = .ref b ∧ SqL K H l xs ∧ SqL K H b zs ∧ xs.length + zs.length ≤ sizeLine ∧ New H (.lst (xs ++ zs)) fun p H2 => Q (.ref p) H2
theorem op_catS {X : Cx} {K : PySem.W.Frag} (h : X.K = K := by rfl) : OpR X (binaryOp .Add) (rCatR K) := by
  subst h
  intro pins s σ H x y v u Q I rx ry h
  obtain ⟨l, b, xs, zs, rfl, rfl, hH, hB, hz, q⟩ := h
  cases rx
  cases ry
  obtain ⟨its, r, ⟨⟨cls, dd, dt, sl⟩, n, e, hc, hd0, hd⟩, hz1⟩ := I.list hH
  obtain ⟨its2, r2, ⟨⟨cls2, dd2, dt2, sl2⟩, n2, e2, hc2, hd02, hd2⟩, hz2⟩ := I.list hB
  simp only at hc hd hc2 hd2
  subst hc hd hc2 hd2
  have hl := r.length
  have hl2 := r2.length
  have ea : its.toArray ++ its2.toArray = (its ++ its2).toArray := by simp
  refine concat_meets ⟨_, e, rfl⟩ ⟨_, e2, rfl⟩ noFill_list_add seq_list_add PySem.F.slot_list_add PySem.F.entry_list_add (PySem.F.args_list_add_2 _ _) (list_addW l b its.toArray its2.toArray n n2 dd dd2 sl sl2 (by rw [List.size_toArray, List.size_toArray]; omega)) ⟨e, e2, ?_⟩
  rw [ea]
  exact ⟨.ref _, _, I.lnew (t' := s.toks) (r.append r2) (by rw [List.length_append]; omega), rfl, q _ I.fresh⟩

/-! ### int(x), [x] * n, == of equal lists -/
def rInt1 : List V → Hp → VK → Prop := fun xs H Q => (∃ i, xs = [.int i] ∧ Q (.int i) H) ∨ ∃ k, xs = [.bl k] ∧ Q (.int (if k then 1 else 0)) H
theorem call_int1R {X : Cx} : CallR X (.type "int") rInt1 := call_int1
theorem rRep_n : rRep = fun x y H Q => ∃ l k xs, x = .ref l ∧ y = .int k ∧ H l = some (.lst xs) ∧ -(2 ^ 63) ≤ k ∧ k < 2 ^ 63 ∧ xs.length * k.toNat ≤ sizeLine ∧ New H (.lst (List.replicate k.toNat xs).flatten) fun p H2 => Q (.ref p) H2 := rfl
theorem eq_lst {K : PySem.W.Frag} {H : Hp} {a b : Addr} {xs : List V} {Q : VK} (ha : SqL K H a xs) (hb : SqL K H b xs) (hx : xs.all isPd = true) (q : Q (.bl true) H) : rEqD K (.ref a) (.ref b) H Q :=
  ⟨_, _, dp_lst ha hx, dp_lst hb hx, shaped_lst hx, shaped_lst hx, by rw [SeqAt.eqv_refl (.list (xs.map pd)) (show PyData.canLayAll0 (xs.map pd) = true from pd_layAll hx)]; exact q⟩
theorem ne_lst {K : PySem.W.Frag} {H : Hp} {a b : Addr} {xs : List V} {Q : VK} (ha : SqL K H a xs) (hb : SqL K H b xs) (hx : xs.all isPd = true) (q : Q (.bl false) H) : rNeD K (.ref a) (.ref b) H Q :=
  ⟨_, _, dp_lst ha hx, dp_lst hb hx, shaped_lst hx, shaped_lst hx, by rw [SeqAt.eqv_refl (.list (xs.map pd)) (show PyData.canLayAll0 (xs.map pd) = true from pd_layAll hx)]; exact q⟩
theorem cut_init (xs : List V) (x : V) : cutV (xs ++ [x]) none (some (-1)) = xs := by
  unfold cutV HT.sIx
  simp only [List.length_append, List.length_singleton, List.drop_zero, Nat.sub_zero]
  rw [if_pos (by decide), show (-1 + ((xs.length + 1 : Nat) : Int)).toNat = xs.length by omega, List.take_append_of_le_length (Nat.le_refl _), List.take_length]
theorem cut_mid (xs : List V) (i j : Nat) : cutV xs (some (i : Int)) (some (j : Int)) = (xs.drop i).take (j - i) := by
  unfold cutV
  rw [HT.sIx_nat, HT.sIx_nat]
  by_cases h : i ≤ xs.length
  · rw [Nat.min_eq_left h]
    by_cases h2 : j ≤ xs.length
    · rw [Nat.min_eq_left h2]
    · rw [Nat.min_eq_right (by omega), List.take_of_length_le (by rw [List.length_drop]; omega), List.take_of_length_le (by rw [List.length_drop]; omega)]
  · have e : min i xs.length = xs.length := Nat.min_eq_right (by omega)
    rw [e, List.drop_eq_nil_of_le (Nat.le_refl _), List.drop_eq_nil_of_le (show xs.length ≤ i by omega), List.take_nil, List.take_nil]
/-! ### len(set(xs)) of ints -/
def tLenSetS (K : PySem.W.Frag) (ta : TE) : TE := fun σ H Q => ta σ H fun x H1 => ∃ (l : Addr) (ns : List Int), x = .ref l ∧ SqL K H1 l (ns.map V.int) ∧ ns.length ≤ 4000 ∧ ∀ ds : List Int, ds.Nodup → (∀ k, k ∈ ds ↔ k ∈ ns) → Q (.int (ds.length : Nat)) H1
theorem firstMet_nd (val : Nat → Int) : ∀ i, (PyProof.Rows.firstMet val i).Nodup
  | 0 => List.nodup_nil
  | i + 1 => by
    rw [PyProof.Rows.firstMet_succ]
    unfold PyProof.Rows.step_dedup
    split
    · exact firstMet_nd val i
    · rename_i h
      rw [List.nodup_append]
      refine ⟨firstMet_nd val i, List.nodup_cons.mpr ⟨List.not_mem_nil, List.nodup_nil⟩, fun a ha b hb e => h (List.any_eq_true.mpr ⟨a, ha, ?_⟩)⟩
      rw [List.mem_singleton] at hb
      rw [e, hb]
      exact beq_self_eq_true _
theorem firstMet_mem (ns : List Int) (k : Int) : k ∈ PyProof.Rows.firstMet (fun i => ns.getD i 0) ns.length ↔ k ∈ ns := by
  have h := PyProof.Rows.firstMet_any (fun i => ns.getD i 0) ns.length k
  have e : (List.range ns.length).map (fun i => ns.getD i 0) = ns := by
    apply List.ext_getElem
    · rw [List.length_map, List.length_range]
    · intro i h1 h2
      rw [List.getElem_map, List.getElem_range, List.getD_eq_getElem?_getD, List.getElem?_eq_getElem h2]
      rfl
  rw [e] at h
  have mem : ∀ l : List Int, l.any (· == k) = true ↔ k ∈ l := fun l => by
    rw [List.any_eq_true]
    constructor
    · rintro ⟨x, hx, e⟩
      rw [← eq_of_beq e]
      exact hx
    · intro hk
      exact ⟨k, hk, beq_self_eq_true k⟩
  rw [← mem, ← mem, h]
theorem pe_lenSetS {X : Cx} {K : PySem.W.Frag} {a : Expr} {ta : TE} {p p2 q pos : Pos} (hg : Gl X "len") (hm : X.mg "len" = none) (hg2 : Gl X "set") (hm2 : X.mg "set" = none) (ha : PE X a ta) (hc : X.calm = true := by rfl)
    (na : starEach [a] X.env = (false, eval a X.env) :: starEach [] X.env := by rfl) (hK : X.K = K := by rfl) : PE X (.Call (.Name "len" p) [.Call (.Name "set" p2) [a] [] q] [] pos) (tLenSetS K ta) := by
  subst hK
  refine ⟨fun pins s σ H Q I h => ?_⟩
  refine Call_ (ld_blt I hg hm boot_len ?_)
  refine PyProof.Rows.callWith_builtin1 (PyProof.Rows.args_cons ?_ rfl) rfl rfl
  refine Call_ (ld_blt I hg2 hm2 boot_set ?_)
  refine PyProof.Rows.callWith_type1 (PyProof.Rows.args_cons (thn (ha.run pins s σ H _ I h) fun v s1 ⟨x, H1, I1, r1, q1⟩ => PyProof.Rows.args_nil ?_) na) na rfl
  obtain ⟨l, ns, rfl, hq, hl, q1⟩ := q1
  cases r1
  obtain ⟨its, r, pl, hz⟩ := I1.list hq
  have hlen : its.toArray.size = ns.length := by rw [List.size_toArray, ← r.length, List.length_map]
  refine call_set_list (I1.ok.hd hc) pl.isList (by simpa using RZ.intsAre_vals r) (by rw [hlen]; unfold scanBound; omega) fun h' tk hS hk => ?_
  refine PyProof.Rows.args_nil ?_
  rw [hlen] at hS
  have hlt := PyProof.Rows.firstMet_length_le (fun i => ns.getD i 0) ns.length
  have q2 := q1 (PyProof.Rows.firstMet (fun i => ns.getD i 0) ns.length) (firstMet_nd _ _) (firstMet_mem ns)
  generalize PyProof.Rows.firstMet (fun i => ns.getD i 0) ns.length = D at hS hlt q2
  obtain ⟨o, es, ep, t, ho, hex, hd, _, _, _, hf, hn⟩ := hS
  have I2 : Inv X pins σ H1 { s1 with heap := h', toks := tk } := I1.kept fun b o e => hk b o (Heap.lt_size e) e
  exact call_len_set ho hex hd hf (by rw [hn] <;> omega) ⟨.int D.length, H1, I2.tok _, ⟨_, by rw [hn]⟩, q2⟩
theorem eqV_int (a n : Int) : eqV (.int a) (.int n) = decide (a = n) := by
  unfold eqV
  rfl
theorem idx_at {D : List Int} {z : Int} (h : z ∈ D) : D[D.idxOf z]? = some z := by
  have hx := List.idxOf_lt_length_of_mem h
  rw [List.getElem?_eq_getElem hx, List.getElem_idxOf]
theorem idx_ne {D : List Int} {z : Int} (m : Nat) (hm : m < D.idxOf z) : D[m]? ≠ some z := fun e => by
  obtain ⟨h1, h2⟩ := List.getElem?_eq_some_iff.mp e
  have := List.not_of_lt_findIdx (p := (· == z)) (xs := D) (i := m) hm
  simp [h2] at this
/-! ### things that stay -/
inductive Th (K : PySem.W.Frag) (H : Hp) : V → String → Prop
  | int (i : Int) : Th K H (.int i) "int"
  | bl (b : Bool) : Th K H (.bl b) "bool"
  | non : Th K H .non "NoneType"
  | str (z : Str) : Th K H (.str z) "str"
  | lst {a : Addr} {xs : List V} (h : SqL K H a xs) : Th K H (.ref a) "list"
  | tup {a : Addr} {xs : List V} (h : SqT K H a xs) : Th K H (.ref a) "tuple"
  | dK {a : Addr} {xs : List (Key × V)} (h : H a = some (.dK xs)) : Th K H (.ref a) "dict"
theorem Th.thg {K : PySem.W.Frag} {H : Hp} {x : V} {T : String} (t : Th K H x T) : Thg K H x T := by
  cases t with
  | int i => exact thg_int
  | bl b => exact thg_bl
  | non => exact thg_non
  | str z => exact thg_str
  | lst h => exact thg_seq h
  | tup h => exact thg_tup h
  | dK h => exact thg_dK h
theorem Th.same {K : PySem.W.Frag} {H H' : Hp} {x : V} {T : String} (t : Th K H x T) (s : Same H H') : Th K H' x T := by
  cases t with
  | int i => exact .int i
  | bl b => exact .bl b
  | non => exact .non
  | str z => exact .str z
  | lst h => exact .lst (s.seq h)
  | tup h => exact .tup (Same.seqT s h)
  | dK h => exact .dK (s _ _ h)
theorem cut_last (xs : List V) : cutV xs (some (-1)) none = xs.drop (xs.length - 1) := by
  unfold cutV HT.sIx
  dsimp only
  rw [if_pos (by decide), show (-1 + (xs.length : Int)).toNat = xs.length - 1 by omega, List.take_of_length_le (by rw [List.length_drop]; omega)]
theorem tDNewK_n : tDNewK = fun _ H Q => New H (.dK []) fun p H2 => Q (.ref p) H2 := rfl
def rStrI : List V → Hp → VK → Prop := fun xs H Q => ∃ i : Int, xs = [.int i] ∧ i.natAbs.log2 < 1920 ∧ Q (.str (toString i)) H
theorem call_strI {X : Cx} : CallR X (.type "str") rStrI := call_str_int
end Rb

set_option Elab.async false
set_option linter.all false
set_option maxRecDepth 100000
set_option maxHeartbeats 4000000
/-! own exceptions: made, raised, caught -/
namespace Rx
open PySem PySem.Spec PyProof.Rows L2 Rb
/-! ### RoomError.__init__(self, ..), RoomError a class without __init__ -/
section
variable {X : Cx} {o e : Expr} {es : List Expr} {to te : TE} {ta : TA} {f x : Str} {p p' p1 p2 pos : Pos}
theorem pe_roinit {K : PySem.W.Frag} {pl : Sem Bool} {CR : Addr} {mc : Value} (hg : Gl X x) (hm : X.mg x = some (.ref CR)) (r : ClX.CRead X.K CR mc) (vV : PySem.W.findCls X.K (.ref CR) mc "__init__" = some (.val (.builtin "ValueError.__init__"))) (ha : PA X (e :: es) ta)
    (hdb : (x == ("__debug__" : Str)) = false := by decide)
    (hc : eval (.Call (.Attribute (.Name x p1) "__init__" p2) (e :: es) [] pos) X.env = (do
      let ov ← eval (.Name x p1) X.env
      standAt p2.atName
      let (f, first) ← holding [ov] (getMethod ov "__init__" pl)
      callWith pos f first (backTo pos (starEach (e :: es) X.env)) (backToKw pos (keywordEach [] X.env))) := by rfl)
    (he : starEach (e :: es) X.env = (false, eval e X.env) :: starEach es X.env := by rfl) (hpl : (backTo pos (starEach es X.env)).any (·.1) = false := by rfl) (hK : X.K = K := by rfl) :
    PE X (.Call (.Attribute (.Name x p1) "__init__" p2) (e :: es) [] pos) (tVeI K ta) := by
  subst hK
  refine ⟨fun pins s σ H Q I h => ?_⟩
  refine PySem.W.methodCall_KW (ld_glob I hg hm ?_ hdb) hc
  refine PySem.W.method_cls I.kIn r.ga (PySem.W.cls_value I.kIn r.rd vV (by decide +kernel) ?_)
  show wpAny _ _ (callWith pos (Value.builtin "ValueError.__init__") [] (backTo pos (starEach (e :: es) X.env)) []) _ _ _
  refine PyProof.Rows.callWith_method1 (thn (ha.run pos pins _ σ H _ (I.tok _) h) fun us s1 ⟨vs, H1, I1, r1, a, C, ws, ev, hl, T, ea, q⟩ => ?_) he hpl
  subst ev
  cases r1 with
  | @cons _ u0 _ ur ra rw' =>
    obtain rfl : u0 = Value.ref a := ra
    have hlen : ur.length ≤ sizeLine := by
      rw [← Paired.length rw', sizeLine_eq]
      omega
    exact oinit_ok T I1 ea hlen fun s' J => ⟨.non, H1, J, rfl, q⟩
theorem ps_ostK {K : PySem.W.Frag} (ho : PE X o to) (he : PE X e te) (hs : swapsWith e (some (.Attribute o f p')) pos.line X.env = pure false := by rfl) (hK : X.K = K := by rfl) : PS X (.Assign [.Attribute o f p'] e pos) (tOst K f to te) := by
  subst hK
  exact ps_ost ho he hs
end
/-! ### an exception's class, with its __init__ -/
/-- what the text says of the exception class at C -/
structure XcK (K : PySem.W.Frag) (C : Addr) : Prop where
  oc : OexC K C
  xf : XfC K C
structure Xn (P : Program) (w : World) (K : PySem.W.Frag) (mg : Str → Option Value) (base : Heap) (k : Nat) (C : Addr) (x : Str) (ps : List Str) (sp : Sp) : Prop where
  cls : XcK K C
  ex : ∃ f fd, PySem.W.findIn K (.ref C) "__init__" = some (some (.ref f)) ∧ PySem.W.typeIn K (.ref f) = some (.type "function") ∧ FnOk P w K mg base CX0 k f fd ps sp ∧ mg x = some (.ref C) ∧ Binds K fd ps []
/-- the exception's fields -/
def XObj (H : Hp) (d : Addr) (fs : List (Str × V)) : Prop := H d = some (.xd fs)
def spX (C : Addr) (ns : List Str) : Sp := fun vs H Q _ => ∃ (a : Addr) (ys : List V), vs = .ref a :: ys ∧ ys.length = ns.length ∧ H a = some (exo a C none) ∧ ∀ dx H1, H dx = none → dx ≠ a → H1 a = some (exo a C (some dx)) → H1 dx = some (exd dx ((ns.zip ys).reverse)) → (∀ b, b ≠ a → b ≠ dx → H1 b = H b) → Q .non H1
/-- raise C(e, ..): the fields by name -/
def tRz (C : Addr) (ns : List Str) (ta : TA) (W : Value → Option Addr → L2.St → Hp → Prop) : TS := fun _ σ H => ta σ H fun ys H1 => ys.length = ns.length ∧ ∀ d H2, H1 d = none → Same H1 H2 → H2 d = some (.xd (ns.zip ys).reverse) → W (.ref C) (some d) σ H2
/-- a reading of arguments that may be weakened -/
def tWeak (ta : TA) : TA := fun σ H R => ∃ R0 : List V → Hp → Prop, ta σ H R0 ∧ ∀ ys H1, R0 ys H1 → R ys H1
theorem pa_weak {X : Cx} {es : List Expr} {ta : TA} (ha : PA X es ta) : PA X es (tWeak ta) := by
  refine ⟨fun pos pins s σ H Q I h => ?_⟩
  obtain ⟨R0, h0, hi⟩ := h
  exact thn (ha.run pos pins s σ H R0 I h0) fun us s1 ⟨vs, H1, I1, r1, q1⟩ => ⟨vs, H1, I1, r1, hi _ _ q1⟩
theorem ps_rz {X : Cx} {k : Nat} {C : Addr} {x : Str} {ps ns : List Str} {e : Expr} {es : List Expr} {ta : TA} {p pos pos' : Pos} {W : WX} (N : Xn X.prog X.w X.K X.mg X.base k C x ps (spX C ns)) (hc : X.calm = true) (tk : Takes X W) (hr : Room (k + 1) X.A) (hg : Gl X x) (hx : Passes CX0 X (fun _ _ _ => False)) (ha : PA X (e :: es) ta)
    (hns : ns.length ≤ 900 := by decide) (hdb : (x == ("__debug__" : Str)) = false := by decide) (he : starEach (e :: es) X.env = (false, eval e X.env) :: starEach es X.env := by rfl) (hpl : (backTo pos (starEach es X.env)).any (·.1) = false := by rfl) :
    PS X (.Raise (some (.Call (.Name x p) (e :: es) [] pos)) none pos') (tRz C ns ta W) := by
  obtain ⟨f, fd, iC, tI, F, hm, hb⟩ := N.ex
  have mk : PMk X (.Call (.Name x p) (e :: es) [] pos) (tMkO C (spX C ns) [] (tWeak ta)) := pmk_oex N.cls.oc iC tI F hr hb .nil hx hg hm (pa_weak ha) hdb he hpl
  have ps := ps_raise (W := W) (pos := pos') hc tk mk
  refine ⟨fun pins s σ H D I h => ps.run pins s σ H D I ?_⟩
  refine ⟨_, h, fun ys H1 ⟨hl, q⟩ => ⟨by omega, fun a na => ⟨a, ys, by rw [List.append_nil], hl, upd_same, fun dx H2 nd nda hx hd hk => ⟨rfl, dx, _, hx, hd, ?_, ?_⟩⟩⟩⟩
  · rw [upd_ne nda] at nd
    exact nd
  · rw [upd_ne nda] at nd
    refine q dx _ nd (fun b o hb => ?_) upd_same
    have nbd := ne_of_none hb nd
    have nba := ne_of_none hb na
    rw [upd_ne nbd, del_ne nba, hk b nba nbd, upd_ne nba]
    exact hb
/-! ### calls that may raise, what is raised told at the caller's slots -/
theorem passF {X : Cx} : Passes (L2.CX X.prog X.w) X E0 := fun _ _ _ _ _ _ _ ⟨_, _, _, _, _, _, _, _, _, _, _, _, q⟩ => q.elim
section
variable {X : Cx} {CX : CXT} {k : Nat} {C : Addr} {ps : List Str} {sp : Sp} {E : L2.St → XK} {x m : Str} {p pos apos : Pos} {e o : Expr} {es : List Expr} {t : TA} {ta : TE}
theorem pe_cdS (D : Dn X.prog X.w X.K X.mg X.base CX k x ps sp) (hr : Room k X.A) (hg : Gl X x) (hx : ∀ σ, PassesAt CX X σ (E σ)) (ha : PA X (e :: es) t)
    (hdb : (x == ("__debug__" : Str)) = false := by decide) (he : starEach (e :: es) X.env = (false, eval e X.env) :: starEach es X.env := by rfl) (hpl : (backTo pos (starEach es X.env)).any (·.1) = false := by rfl) :
    PE X (.Call (.Name x p) (e :: es) [] pos) (tCallS sp E t) := by
  obtain ⟨f, fd, F, m, kp, b⟩ := D.ex
  exact pe_callS F hr hg m kp b hx ha hdb he hpl
def tMethX (C : Addr) (m : Str) (sp : Sp) (E : L2.St → XK) (ta : TE) (t : TA) : TE := fun σ H Q => ta σ H fun x H1 => ∃ a dx fs, x = .ref a ∧ H1 a = some (.ins C dx fs) ∧ fs.lookup m = none ∧ t σ H1 fun vs H2 => sp (x :: vs) H2 Q (E σ)
theorem pe_mdS {pl : Sem Bool} (ho : PE X o ta) (N : Nn X.prog X.w X.K X.mg X.base CX k C m ps sp) (hr : Room k X.A) (hx : ∀ σ, PassesAt CX X σ (E σ)) (ha : PA X (e :: es) t)
    (hst : starEach (e :: es) X.env = (false, eval e X.env) :: starEach es X.env := by rfl) (hpl : (backTo pos (starEach es X.env)).any (·.1) = false := by rfl)
    (ht : eval (.Call (.Attribute o m apos) (e :: es) [] pos) X.env = (do
      let ov ← eval o X.env
      standAt apos.atName
      let (f, first) ← holding [ov] (getMethod ov m pl)
      callWith pos f first (backTo pos (starEach (e :: es) X.env)) (backToKw pos (keywordEach [] X.env))) := by rfl) : PE X (.Call (.Attribute o m apos) (e :: es) [] pos) (tMethX C m sp E ta t) := by
  obtain ⟨f, fd, hm, F, hb⟩ := N.ex
  refine ⟨fun pins s σ H Q I h => ?_⟩
  refine PySem.W.methodCall_KW (pl := pl) (thn (ho.run pins s σ H _ I h) fun u s1 ⟨x, H1, I1, rx, a, dx, fs, ex, ea, l, q⟩ => ?_) ht
  subst ex
  obtain rfl : u = Value.ref a := rx
  refine getmeth_ok I1 ea N.cl hm l ?_
  refine PySem.W.callWith_K (first := [.ref a]) (h₀ := X.base) I.ok.mod.kin hm.kp (thn (ha.run pos pins s1 σ H1 _ I1 q) fun us s2 ⟨vs, H2, I2, r, q2⟩ => ⟨I2.kIn, ?_⟩) hst hpl
  exact run_fnS (us := .ref a :: us) (vs := .ref a :: vs) F hr hb (hx σ) I2 (.cons rfl r) q2
def tMakeX (C : Addr) (sp : Sp) (E : L2.St → XK) (t : TA) : TE := fun σ H Q => t σ H fun vs H1 => Made H1 C fun x H2 => sp (.ref x :: vs) H2 (fun v H3 => v = .non ∧ Q (.ref x) H3) (E σ)
theorem run_makeS {pins : List (Addr × Obj)} {σ : L2.St} {H : Hp} {s : Shared} {Q : VK} {f : Addr} {fd : FuncData} {us : List Value} {vs : List V} (M : Mk X.K C f) (F : FnOk X.prog X.w X.K X.mg X.base CX k f fd ps sp) (hr : Room (k + 1) X.A) (hb : Binds X.K fd ps [])
    (hx : PassesAt CX X σ (E σ)) (I : Inv X pins σ H s) (r : Vals vs us)
    (h : ∀ x dx, H x = none → H dx = none → dx ≠ x → sp (.ref x :: vs) (upd (upd H dx (.own x)) x (.ins C dx [])) (fun v H2 => v = .non ∧ Q (.ref x) H2) (E σ)) :
    wpAny (model X.prog X.w) X.A (call (.ref C) us) (EP X pins σ Q) X.xe s := by
  have hq := h (s.heap.objs.size + 1) s.heap.objs.size (I.hok.fresh (Nat.le_succ _)) (I.hok.fresh (Nat.le_refl _)) (Nat.ne_of_lt (Nat.lt_succ_self _))
  have I2 := Inv.made (C := C) I
  have r2 : Vals (V.ref (s.heap.objs.size + 1) :: vs) (Value.ref (s.heap.objs.size + 1) :: us) := .cons rfl r
  have hl : (Value.ref (s.heap.objs.size + 1) :: us).length = ps.length := by
    have e := r2.length
    rw [F.len _ _ _ _ hq] at e
    exact e.symm
  have b := hb { s with heap := _, toks := _ } (Value.ref (s.heap.objs.size + 1) :: us) I2.kIn (by rw [List.append_nil]; exact hl)
  rw [List.append_nil] at b
  refine wpAny_call (make_map (f := f) I.kIn M.makes M.init (beq_iff_eq.mp M.fn) (codeAny_mono (F.run _ X.stack _ _ ⟨Value.ref (s.heap.objs.size + 1) :: us, []⟩ (Value.ref (s.heap.objs.size + 1) :: us) _ _ (E σ) (hr.make C us [])
    (I2.env0.make C us []) b r2 hq) fun r s' hq' => ?_))
  cases r with
  | error e => exact hx pins _ _ e s' I2 hq'
  | ok fl =>
    cases fl with
    | ret u =>
      obtain ⟨v, H', I3, rv, ev, q3⟩ := I2.after hq'
      subst ev
      exact ⟨rv, ⟨V.ref (s.heap.objs.size + 1), H', I3, rfl, q3⟩⟩
    | next => exact False.elim hq'
    | brk => exact False.elim hq'
    | cont => exact False.elim hq'
theorem pe_mkS (M : Mn X.prog X.w X.K X.mg X.base CX k C x ps sp) (hr : Room (k + 1) X.A) (hg : Gl X x) (hx : ∀ σ, PassesAt CX X σ (E σ)) (ha : PA X (e :: es) t)
    (hdb : (x == ("__debug__" : Str)) = false := by decide) (he : starEach (e :: es) X.env = (false, eval e X.env) :: starEach es X.env := by rfl) (hpl : (backTo pos (starEach es X.env)).any (·.1) = false := by rfl) :
    PE X (.Call (.Name x p) (e :: es) [] pos) (tMakeX C sp E t) := by
  obtain ⟨f, fd, mk, F, hm, b⟩ := M.ex
  refine ⟨fun pins s σ H Q I h => ?_⟩
  refine wpAny_Call_Name_kw (ld_glob I hg hm ?_ hdb)
  refine PySem.W.callWith_K (h₀ := X.base) I.ok.mod.kin mk.kp (thn (ha.run pos pins s σ H _ I h) fun us s1 ⟨vs, H1, I1, r, q⟩ => ⟨I1.kIn, ?_⟩) he hpl
  exact run_makeS mk F hr b (hx σ) I1 r q
end
/-! ### a caught exception's field -/
def tXfA (K : PySem.W.Frag) (a : Addr) (cls : Value) (d : Option Addr) (f : Str) (te : TE) : TE := fun σ H Q => te σ H fun x H1 => x = .ref a ∧ ∃ C : Addr, cls = .ref C ∧ XfC K C ∧ PySem.W.findIn K (.ref C) f = some none ∧ ∃ (dd : Addr) (fs : List (Str × V)) (v : V), d = some dd ∧ H1 dd = some (.xd fs) ∧ fs.lookup f = some v ∧ Q v H1
theorem pe_xfA {X : Cx} {K : PySem.W.Frag} {a : Addr} {oe : Obj} {cls : Value} {d : Option Addr} {pn : List (Addr × Obj)} {e : Expr} {te : TE} {pos : Pos} {n : Str} (hz : Zc cls d oe) (hf : ∃ vs, oe.data = .fields vs) (he : PE (X.suite a ((a, oe) :: pn)) e te) (hb : attributeBase e n X.env (eval e X.env) = eval e X.env := by rfl) (hK : X.K = K := by rfl) :
    PE (X.suite a ((a, oe) :: pn)) (.Attribute e n pos) (tXfA K a cls d n te) := by
  subst hK
  refine ⟨fun pins s σ H Q I h => ?_⟩
  refine attr_of hb (thn (he.run pins s σ H _ I h) fun u s1 hh => ?_)
  obtain ⟨x, H1, I1, rx, ex, C, ec, T, hno, dd, fs, v, ed, ea, l, q⟩ := hh
  subst ex
  obtain rfl : u = Value.ref a := rx
  subst ec
  subst ed
  obtain ⟨ha, _⟩ := I1.pin (a, oe) (List.mem_append_left _ List.mem_cons_self)
  obtain ⟨vs, hd⟩ := hf
  have hx : ObjOk X.prog X.w H1 s1.heap dd (.xd fs) := I1.hok dd _ ea
  obtain ⟨mA, hns, hr⟩ := hx
  obtain ⟨od, ho, hl⟩ := lookIn_ns hns
  obtain ⟨u, hu, ru⟩ := RelO.some_of (v := v) (o := mA n) (by rw [← l]; exact hr n)
  have J : PySem.W.InstAt s1.heap a oe C (some od) := ⟨ha, hz.1, by unfold PySem.W.notCls; rw [hd] <;> rfl, by rw [hz.2]; exact ho⟩
  exact HandSPX.exc_get I1.kIn J T.ga T.gg T.exC (PySem.W.findObj_own T.hdC hno rfl (by rw [hl, hu])) (handed_of ru) ⟨v, H1, I1.tok _, ru, q⟩
end Rx
namespace Rx
open PySem PySem.Spec PyProof.Rows L2 Rb
theorem exm_of2 {K : PySem.W.Frag} {C : Addr} {cls : Value} {b : Bool} (h1 : PySem.W.subIn K (.ref C) (.type "BaseException") = some true) (hdct : PySem.W.hasDictIn K C = true) (ht : PySem.W.typeIn K (.ref C) = some (.type "type")) (h4 : PySem.W.subIn K cls (.ref C) = some b) : PySem.W.exmOne K cls (.ref C) = some b := PySem.W.exm_ref h1 hdct ht h4
end Rx
namespace Rx
open PySem PySem.Spec PyProof.Rows L2 Rb
/-! ### o[a:c] = ys -/
def gSlS (to tl th : TE) : TG := fun v σ H Q => to σ H fun x H1 => tl σ H1 fun a H2 => th σ H2 fun c H3 => ∃ (l b : Addr) (xs ys : List V) (i j : Int), x = .ref l ∧ v = .ref b ∧ a = .int i ∧ c = .int j ∧ H3 l = some (.lst xs) ∧ H3 b = some (.lst ys) ∧ l ≠ b ∧ 0 ≤ i ∧ i ≤ j ∧ j ≤ xs.length ∧
  xs.length + ys.length ≤ sizeLine ∧ Upd H3 l (.lst (xs.take i.toNat ++ ys ++ xs.drop j.toNat)) fun H4 => Q σ H4
theorem pg_slset {X : Cx} {o lo hi : Expr} {to tl th : TE} {p2 pos : Pos} (ho : PE X o to) (hl : PE X lo tl) (hh : PE X hi th)
    (ha : ∀ v, assign (.Subscript o (.Slice (some lo) (some hi) none p2) pos) X.env v = (do
      let ov ← holding [v] (eval o X.env)
      let iv ← holding [v, ov] (eval (.Slice (some lo) (some hi) none p2) X.env)
      standAt pos
      holding [v, ov, iv] (setItem ov iv v)
      release [iv, v, ov] []) := by intro _; rfl) : PG X (.Subscript o (.Slice (some lo) (some hi) none p2) pos) (gSlS to tl th) := by
  refine ⟨fun pins s σ H v u Q I r h => ?_⟩
  rw [ha]
  refine wpAny_bind (wpAny_holding (thn (ho.run pins s σ H _ I h) fun ov s1 ⟨x, H1, I1, r1, q1⟩ => ?_))
  refine wpAny_bind (wpAny_holding ?_)
  refine wpAny_Slice ?_
  rw [evalPart_some]
  refine thn (hl.run pins s1 σ H1 _ I1 q1) fun vl s2 ⟨a, H2, I2, pl, q2⟩ => ?_
  rw [evalPart_some]
  refine thn (hh.run pins s2 σ H2 _ I2 q2) fun vu s3 ⟨c, H3, I3, pu, q3⟩ => ?_
  rw [evalPart_none]
  refine wpAny_pure ?_
  obtain ⟨l, b, xs, ys, i, j, rfl, rfl, rfl, rfl, hl3, hb3, ne, h0, hij, hj, hz, q⟩ := q3
  cases r
  cases r1
  have I4 : Inv X pins σ H3 { s3 with heap := s3.heap.push { cls := .type "slice", data := .fields #[vl, vu, .none] } } := I3.kept (t' := s3.toks) fun b ob q => Heap.get?_push_of_some _ q
  refine wpAny_bind (wpAny_standAt (wpAny_bind (wpAny_holding ?_)))
  refine set_slice (s := { s3 with heap := s3.heap.push { cls := .type "slice", data := .fields #[vl, vu, .none] } }) I4 hl3 hb3 ne (Heap.IsSliceOf.new ..) pl pu h0 hij hj hz fun s5 I5 => ?_
  exact wpAny_release ⟨σ, _, I5, q⟩
end Rx
namespace Rx
open PySem PySem.Spec PyProof.Rows L2 Rb
theorem Loop.rangeC {lo c : Int} {n : Nat} {g : TG} {tb : TS} {D : Ends} {σ : L2.St} {H : Hp} (Pv : Nat → L2.St → Hp → Prop) (h0 : Pv 0 σ H)
    (hs : ∀ i σ H, i < n → Pv i σ H → g (.int (lo + (i : Nat) * c)) σ H fun σ2 H2 => tb { D with nx := Pv (i + 1), ct := Pv (i + 1), bk := D.nx } σ2 H2) (hd : ∀ σ H, Pv n σ H → D.nx σ H) : Loop (Itc lo c n) g tb D σ H := for_rangeC Pv h0 hs hd
/-! heaps that keep all but some objects -/
def OffS (S : List Addr) (H H' : Hp) : Prop := ∀ b o, b ∉ S → H b = some o → H' b = some o
theorem OffS.refl {S : List Addr} {H : Hp} : OffS S H H := fun _ _ _ h => h
theorem OffS.trans {S : List Addr} {H H1 H2 : Hp} (p : OffS S H H1) (q : OffS S H1 H2) : OffS S H H2 := fun b o n h => q b o n (p b o n h)
theorem OffS.same {S : List Addr} {H H1 : Hp} (s : Same H H1) : OffS S H H1 := fun b o _ h => s b o h
theorem OffS.off {S : List Addr} {a : Addr} {H H1 : Hp} (o : Off a H H1) (h : a ∈ S) : OffS S H H1 := fun b u n e => o b u (fun z => n (z ▸ h)) e
theorem OffS.toSame {S : List Addr} {H0 H H1 : Hp} (s : Same H0 H) (o : OffS S H H1) (hn : ∀ a ∈ S, H0 a = none) : Same H0 H1 := fun b u e => o b u (fun m => by rw [hn b m] at e; cases e) (s b u e)
end Rx

set_option Elab.async false
set_option linter.all false
set_option maxRecDepth 100000
set_option maxHeartbeats 4000000
/-! texts -/
namespace Tx
open PySem PySem.Spec PyProof.Rows L2 Rb SX
def wds (ws : List (List Nat)) : List V := ws.map fun w => V.str (S w)
theorem wds_eq (ws : List (List Nat)) : (ws.map S).map V.str = wds ws := by
  rw [List.map_map]
  rfl
def rJoinS (K : PySem.W.Frag) : V → List V → Hp → VK → Prop := fun x xs H Q => ∃ (a : List Nat) (p : Addr) (ys : List (List Nat)), x = .str (S a) ∧ xs = [.ref p] ∧ (SqL K H p (wds ys) ∨ SqT K H p (wds ys)) ∧ (ys.map (·.length)).sum + ys.length * a.length ≤ 16777216 ∧ Q (.str (S (TL.joinL a ys))) H
theorem mt_joinS {X : Cx} {K : PySem.W.Frag} (h : X.K = K := by rfl) : MtR X "str.join" (rJoinS K) := by
  subst h
  intro pins s σ H x xs v us Q I rx rs q
  obtain ⟨a, p, ys, ex, es, hp, hz, q⟩ := q
  refine mt_join pins s σ H x xs v us Q I rx rs ⟨S a, p, ys.map S, ex, es, ?_, ?_, ?_⟩
  · rw [wds_eq]
    exact hp
  · rw [lens, List.length_map, S_len]
    exact hz
  · rw [join_S]
    exact q
def rSplitS : V → List V → Hp → VK → Prop := fun x xs H Q => ∃ (a b : List Nat), x = .str (S a) ∧ xs = [.str (S b)] ∧ b ≠ [] ∧ b.all (· < 256) = true ∧ a.length ≤ 100000 ∧ New H (.lst (wds (TL.spl b 0 [] a))) fun p H2 => Q (.ref p) H2
theorem mt_splitS {X : Cx} : MtR X "str.split" rSplitS := by
  intro pins s σ H x xs v us Q I rx rs q
  obtain ⟨a, b, ex, es, hb, hk, hz, q⟩ := q
  refine mt_split pins s σ H x xs v us Q I rx rs ⟨S a, S b, ex, es, ?_, ?_, ?_⟩
  · rw [S_len]
    cases b with
    | nil => exact absurd rfl hb
    | cons c r => rfl
  · rw [S_len, sizeLine_eq]
    omega
  · rw [split_S hb hk]
    intro p np
    rw [wds_eq]
    exact q p np
theorem inV_str (n : List Nat) : ∀ ws : List (List Nat), inV (.str (S n)) (wds ws) = decide (n ∈ ws)
  | [] => rfl
  | a :: r => by
    have e : inV (.str (S n)) (wds (a :: r)) = (eqV (.str (S a)) (.str (S n)) || inV (.str (S n)) (wds r)) := rfl
    rw [e, inV_str n r]
    have e2 : eqV (.str (S a)) (.str (S n)) = decide (a = n) := by
      have : eqV (.str (S a)) (.str (S n)) = decide (S a = S n) := by
        unfold eqV
        rfl
      rw [this]
      by_cases h : a = n
      · rw [decide_eq_true h, decide_eq_true (congrArg S h)]
      · rw [decide_eq_false h, decide_eq_false fun g => h (S_inj g)]
    rw [e2]
    by_cases h : a = n
    · subst h
      simp
    · simp [h, Ne.symm h]
theorem flat_wds : ∀ ws : List (List Nat), (wds ws).all flatV = true
  | [] => rfl
  | _ :: r => flat_wds r
theorem str_S (z : Str) : z = S z.cps.toList := (S_tl z).symm
theorem pe_gr {X : Cx} {x : Str} {a : Addr} {pos : Pos} (hg : Gl X x) (hm : X.mg x = some (.ref a)) (hd : (x == ("__debug__" : Str)) = false := by decide) : PE X (.Name x pos) (tC (.ref a)) := pe_glob (v := .ref a) hg hm rfl hd
theorem Loop.strL {l : List Nat} {g : TG} {tb : TS} {D : Ends} {σ : L2.St} {H : Hp} (Pv : Nat → L2.St → Hp → Prop) (h0 : Pv 0 σ H)
    (hs : ∀ i c σ H, l[i]? = some c → Pv i σ H → g (.str ⟨#[c]⟩) σ H fun σ2 H2 => tb { D with nx := Pv (i + 1), ct := Pv (i + 1), bk := D.nx } σ2 H2) (hd : ∀ σ H, Pv l.length σ H → D.nx σ H) : Loop (Its (S l)) g tb D σ H :=
  Loop.str (z := S l) Pv h0 (fun i c σ H h p => hs i c σ H (by simpa using h) p) (fun σ H p => hd σ H (by simpa using p))
theorem Cmp.pureS {l : List Nat} {j : Nat} {te : TE} {vs : List Nat} {σ : L2.St} {H1 : Hp} {Q : VK} (f : Nat → V) (hz : l.length ≤ 100000) (hw : ∀ x, wipe ((wipe σ vs).set j (some x)) vs = wipe σ vs)
    (he : ∀ c H2 (R : VK), c ∈ l → Same H1 H2 → (∀ H3, Same H2 H3 → R (f c) H3) → te ((wipe σ vs).set j (some (.str ⟨#[c]⟩))) H2 R)
    (hd : ∀ d H2, H1 d = none → Same H1 H2 → H2 d = some (.lst (l.map f)) → Q (.ref d) H2) : Cmp (Its (S l)) (gName j) tYes te vs σ H1 Q := by
  intro D nD
  refine ⟨fun i m H => m = l.length - i ∧ i ≤ l.length ∧ Same H1 H ∧ H D = some (.lst ((l.take i).map f)), ⟨l.length, rfl, Nat.zero_le _, same_new nD, upd_same⟩, ?_⟩
  rintro i m H ⟨rfl, hi, s2, h2⟩
  have hsz : (S l).cps.size = l.length := by simp
  by_cases hlt : i < l.length
  · refine .inr ⟨show i < (S l).cps.size by omega, fun H' => Same H1 H' ∧ H' D = some (.lst ((l.take (i + 1)).map f)), fun H' ⟨p1, p2⟩ => ⟨l.length - (i + 1), by omega, rfl, hlt, p1, p2⟩, fun x H' y => ?_⟩
    obtain ⟨e, c, hc, ex⟩ := y
    subst e ex
    have hx : l[i]? = some c := by simpa using hc
    refine ⟨hw _, he c _ _ (List.mem_of_getElem? hx) s2 fun H3 s3 => ?_⟩
    refine ⟨_, s3 _ _ h2, sz100l (by rw [List.length_map, List.length_take]; omega), Same.off (s2.trans s3) nD Off.upd, ?_⟩
    rw [upd_same, take_snoc hx, List.map_append]
    rfl
  · have e : i = l.length := by omega
    subst e
    rw [List.take_length] at h2
    exact .inl ⟨show (S l).cps.size ≤ l.length by omega, hd D H nD s2 h2⟩
theorem takes0F {X : Cx} : Takes X (fun _ _ _ _ => False) := takes0
end Tx

set_option Elab.async false
set_option linter.all false
set_option maxRecDepth 100000
set_option maxHeartbeats 4000000
/-! defs that are called where nothing of a repr is under way; repr -/
namespace Rg
open PySem PySem.Spec PyProof.Rows L2 Rb Rx
structure FnOkG (P : Program) (w : World) (K : PySem.W.Frag) (mg : Str → Option Value) (base : Heap) (CX : CXT) (k : Nat) (f : Addr) (fd : FuncData) (ps : List Str) (sp : Sp) : Prop where
  len : ∀ vs H Q E, sp vs H Q E → vs.length = ps.length
  run : ∀ (A : Around) (outer : List Env) (s : Shared) (H : Hp) (args : Args) (us : List Value) (vs : List V) (Q : VK) (E : XK), Room k A → A.guards = some [] → Env0 P w K mg base A outer s H → BindsTo s fd args (ps.zip us) → Vals vs us → sp vs H Q E →
    codeAny (model P w) A (.call (.ref f) args) (CR CX outer P w H s Q E) s
theorem fn_ofG {CX : CXT} {P : Program} {w : World} {K : PySem.W.Frag} {mg : Str → Option Value} {base : Heap} {k : Nat} {f : Addr} {name qual : Str} {params : Arguments} {body : List Stmt} {scope : Scope} {dV kV doc pm cdv ct oc : Value} {an od : Option Addr}
    {osl : Array (Option Value)} {N ps : List Str} {sp : Sp} (lk : K.lookup f = some ⟨oc, od, .func (PySem.W.fnOf name qual params body scope dV kV doc pm an cdv ct), osl⟩) (hcd : PySem.W.codeIn K cdv qual = true) (S : FnScope N ps scope)
    (len : ∀ vs H Q E, sp vs H Q E → vs.length = ps.length)
    (hbody : ∀ (A : Around) (outer : List Env) (s : Shared) (H : Hp) (vs : List V) (Q : VK) (E : XK), Room k (A.deeper (envOfC qual scope s.heap.objs.size f cdv)) → A.guards = some [] → sp vs H Q E →
      ∃ t, PSs (cxOf CX P w K mg base N qual scope f cdv A outer s H E) body t ∧ t { nx := fun _ H' => Q .non H', rt := Q } (start N vs) H) :
    FnOkG P w K mg base CX (k + 1) f (PySem.W.fnOf name qual params body scope dV kV doc pm an cdv ct) ps sp := by
  refine ⟨len, fun A outer s H args us vs Q E hr hA e0 hb r hsp => ?_⟩
  have hl := len _ _ _ _ hsp
  have KX : K.In s.heap := e0.mod.kin.keeps fun b o e => (e0.bs b o e).1
  have lim : s.heap.NoLimit := e0.mod.nolimit.keeps fun b o e => (e0.bs b o e).1
  have hkind : ∀ y ∈ ps.zip us, scope.names.lookup y.1 = some .local ∨ (scope.names.lookup y.1 = some .cell ∧ ((cellsFrom (s.heap.objs.size + 1) scope.names []).lookup y.1).isSome = true) := fun ⟨n, v⟩ hy => by
    rcases S.par n (List.of_mem_zip hy).1 with q | q
    · exact .inl q
    · exact .inr ⟨q, PySem.W.cellsFrom_some _ _ _ (.inl q)⟩
  refine codeAny_call_function hr.depth (KX _ _ lk) rfl S.co S.gen rfl (PySem.W.codeRec_of KX hcd) (hb _ _ _ _ ?_)
  refine wpAny_newFunctionEnv_cells S.kind hkind fun env he s1 x => ?_
  subst he
  refine ⟨lim.keeps x.toInCall.keep, codeAny_func ?_⟩
  obtain ⟨t, ht, hq⟩ := hbody A outer s H vs Q E (hr.deeper _) hA hsp
  have I : Inv (cxOf CX P w K mg base N qual scope f cdv A outer s H E) [] (start N vs) H s1 := inv_start S hr.hd e0 hl r x
  refine wpAny_mono (ht.run [] s1 (start N vs) H _ I hq) (fun fl s' hs => ?_) fun e s' hs => hs
  have fin : ∀ {σ' : L2.St} {H' : Hp} {v : V} {u : Value}, Inv (cxOf CX P w K mg base N qual scope f cdv A outer s H E) [] σ' H' s' → RelV v u → Q v H' → CE outer P w H s Q u s' :=
    fun {σ' H' v u} J rv q => ⟨v, H', J.os, J.bare, J.base, J.hok, rv, q⟩
  cases fl with
  | ret u =>
    obtain ⟨v, σ', H', J, rv, q⟩ := hs
    exact fin J rv q
  | next =>
    obtain ⟨σ', H', J, q⟩ := hs
    exact fin (v := V.non) (u := Value.none) J rfl q
  | brk =>
    obtain ⟨_, _, _, q⟩ := hs
    exact False.elim q
  | cont =>
    obtain ⟨_, _, _, q⟩ := hs
    exact False.elim q
section
variable {P : Program} {w : World} {K : PySem.W.Frag} {mg : Str → Option Value} {base : Heap}
theorem Fun_okG {x qual : Str} {st : Stmt} {f : Addr} {fd : FuncData} {N ps : List Str} {k : Nat} {sp : Sp} (F : Fun K x qual st f fd) (S : FnScope N ps (defScope st)) (len : ∀ vs H Q E, sp vs H Q E → vs.length = ps.length)
    (hbody : ∀ (cdv : Value) (A : Around) (outer : List Env) (s : Shared) (H : Hp) (vs : List V) (Q : VK) (E : XK), Room k (A.deeper (envOfC qual (defScope st) s.heap.objs.size f cdv)) → A.guards = some [] → sp vs H Q E →
      ∃ t, PSs (cxOf CX0 P w K mg base N qual (defScope st) f cdv A outer s H E).nox (defBody st) t ∧ t { nx := fun _ H' => Q .non H', rt := Q } (start N vs) H) : FnOkG P w K mg base CX0 (k + 1) f fd ps sp := by
  obtain ⟨oc, od, kV, doc, pm, an, cdv, ct, osl, rfl, lk, hcd⟩ := F.ex
  refine fn_ofG lk hcd S len fun A outer s H vs Q E hr hA hsp => ?_
  obtain ⟨t, h, q⟩ := hbody cdv A outer s H vs Q E hr hA hsp
  exact ⟨t, h.nox, q⟩
end
structure DnG (P : Program) (w : World) (K : PySem.W.Frag) (mg : Str → Option Value) (base : Heap) (CX : CXT) (k : Nat) (x : Str) (ps : List Str) (sp : Sp) : Prop where
  ex : ∃ f fd, FnOkG P w K mg base CX k f fd ps sp ∧ mg x = some (.ref f) ∧ PySem.W.keepIn K (.ref f) = true ∧ Binds K fd ps []
section
variable {X : Cx} {CX : CXT} {k : Nat} {f : Addr} {fd : FuncData} {ps : List Str} {ds : List Value} {dvs : List V} {sp : Sp} {E : XK} {x : Str} {p pos : Pos} {e : Expr} {es : List Expr} {t : TA}
theorem run_fnG {pins : List (Addr × Obj)} {σ : L2.St} {H : Hp} {s : Shared} {Q : VK} {us : List Value} {vs : List V} (F : FnOkG X.prog X.w X.K X.mg X.base CX k f fd ps sp) (hr : Room k X.A) (hA : X.A.guards = some []) (hb : Binds X.K fd ps ds) (hd : Vals dvs ds) (hx : Passes CX X E)
    (I : Inv X pins σ H s) (r : Vals vs us) (h : sp (vs ++ dvs) H Q E) : wpAny (model X.prog X.w) X.A (call (.ref f) us) (EP X pins σ Q) X.xe s := by
  have r2 : Vals (vs ++ dvs) (us ++ ds) := r.append hd
  have hl : (us ++ ds).length = ps.length := by rw [← r2.length]; exact F.len _ _ _ _ h
  refine wpAny_call (codeAny_mono (F.run X.A X.stack s H ⟨us, []⟩ (us ++ ds) (vs ++ dvs) Q E hr hA I.env0 (hb s us I.kIn hl) r2 h) fun r s' hq => ?_)
  cases r with
  | error e => exact hx pins σ H s e s' I hq
  | ok fl =>
    cases fl with
    | ret u => exact I.after hq
    | next => exact False.elim hq
    | brk => exact False.elim hq
    | cont => exact False.elim hq
theorem pe_cdG (D : DnG X.prog X.w X.K X.mg X.base CX k x ps sp) (hA : X.A.guards = some []) (hr : Room k X.A) (hg : Gl X x) (hx : Passes CX X E) (ha : PA X (e :: es) t)
    (hdb : (x == ("__debug__" : Str)) = false := by decide) (he : starEach (e :: es) X.env = (false, eval e X.env) :: starEach es X.env := by rfl) (hpl : (backTo pos (starEach es X.env)).any (·.1) = false := by rfl) :
    PE X (.Call (.Name x p) (e :: es) [] pos) (tCall sp [] E t) := by
  obtain ⟨f, fd, F, m, kp, b⟩ := D.ex
  refine ⟨fun pins s σ H Q I h => ?_⟩
  refine wpAny_Call_Name_kw (ld_glob I hg m ?_ hdb)
  refine PySem.W.callWith_K (h₀ := X.base) I.ok.mod.kin kp (thn (ha.run pos pins s σ H _ I h) fun us s1 ⟨vs, H1, I1, r, q⟩ => ⟨I1.kIn, ?_⟩) he hpl
  exact run_fnG F hr hA b .nil hx I1 r q
theorem pe_cdG0 (D : DnG X.prog X.w X.K X.mg X.base CX k x ps sp) (hA : X.A.guards = some []) (hr : Room k X.A) (hg : Gl X x) (hx : Passes CX X E)
    (hdb : (x == ("__debug__" : Str)) = false := by decide) : PE X (.Call (.Name x p) [] [] pos) (tCall sp [] E tNil) := by
  obtain ⟨f, fd, F, m, kp, b⟩ := D.ex
  refine ⟨fun pins s σ H Q I h => ?_⟩
  refine wpAny_Call_Name_kw (ld_glob I hg m ?_ hdb)
  exact PySem.W.callWith_K0 I.kIn kp (run_fnG (us := []) F hr hA b .nil hx I .nil h)
end
/-! ### the head -/
theorem law_callG {P : Program} {w : World} {K : PySem.W.Frag} {mg mb : Str → Option Value} {CX : CXT} {k : Nat} {fa a : Addr} {fd : FuncData} {x : Str} {sp : Sp} {s₁ : Shared} {vs : List Value} {ns : List Int}
    (KX : K.In s₁.heap) (hns : s₁.heap.Ns mainGlobals mg) (hb : s₁.heap.Ns builtinsNs mb) (hbb : ∀ x : Str, x ≠ "__name__" → mb x = bootBuiltins x) (hlim : s₁.heap.NoLimit) (hg : s₁.gens = #[])
    (ha : s₁.heap.get? a = some { cls := .type "list", data := .seq vs.toArray }) (hi : IntsAre vs ns) (hl : ns.length ≤ sizeLine) (hr : Room k callerA)
    (F : ∀ base : Heap, K.In base → base.Ns mainGlobals mg → FnOkG P w K mg base CX k fa fd [x] sp) (hbind : ∀ (s : Shared) (u : Value), BindsTo s fd ⟨[u], []⟩ [(x, u)])
    (hsp : ∀ H : Hp, Only H → SqL K H a (ns.map V.int) → sp [.ref a] H (fun v _ => v = .bl true) fun _ _ _ => False)
    (hCX : ∀ H e s', CX [] H s₁ (fun _ _ _ => False) e s' → False) :
    codeAny (model P w) callerA (.call (.ref fa) ⟨[.ref a], []⟩) (fun r s' => r = .ok (.ret (.bool true)) ∧ OldK s₁.heap s'.heap ∧ s'.os = s₁.os ∧ AllBare s'.gens) s₁ := by
  have rv := vals_ints hi
  have lenV := hi.length
  have core : ∀ H : Hp, Only H → SqL K H a (ns.map V.int) → HOk P w H s₁.heap → (∀ b, H b ≠ none → b = a) → (H a ≠ none → K.lookup a = none) →
      codeAny (model P w) callerA (.call (.ref fa) ⟨[.ref a], []⟩) (fun r s' => r = .ok (.ret (.bool true)) ∧ OldK s₁.heap s'.heap ∧ s'.os = s₁.os ∧ AllBare s'.gens) s₁ := by
    intro H hO hS hok hA hK
    have base_of : ∀ {b : Addr} {o : Obj}, s₁.heap.get? b = some o → H b = none → (hidT s₁.heap H).get? b = some o := fun e n => hidT_get e n
    have noA : ∀ {b : Addr} {o : Obj} {es : Array DictEntry} {ep : Nat}, s₁.heap.get? b = some o → o.data = .dict es ep → H b = none := fun {b o es ep} e d => by
      cases q : H b with
      | none => rfl
      | some u =>
        have e' : b = a := hA b (by rw [q]; simp)
        subst e'
        rw [ha] at e; cases e
        have d' : Data.seq vs.toArray _ = Data.dict es ep := d
        cases d'
    have nsK : ∀ {b : Addr} {m : Str → Option Value}, s₁.heap.Ns b m → (hidT s₁.heap H).Ns b m := fun {b m} ⟨o, es, ep, e, d, r⟩ => ⟨o, es, ep, base_of e (noA e d), d, r⟩
    have hKb : K.In (hidT s₁.heap H) := fun b o e => base_of (KX b o e) (by
      cases q : H b with
      | none => rfl
      | some u =>
        have e' : b = a := hA b (by rw [q]; simp)
        subst e'
        rw [hK (by rw [q]; simp)] at e; cases e)
    have hM : Mod K mg (hidT s₁.heap H) := ⟨hKb, nsK hns, ⟨mb, nsK hb, hbb⟩, let ⟨mc, h1, h2⟩ := hlim; ⟨mc, nsK h1, h2⟩⟩
    have e0 : Env0 P w K mg (hidT s₁.heap H) callerA [] s₁ H := ⟨rfl, hM, fun b o e => of_hidT e, Nat.le_of_eq (hidT_size _ _), trivial, fun b hb => absurd (show b ∈ ([] : List Addr) from hb) (by simp), hok, .of_eq hg⟩
    refine codeAny_mono ((F _ hKb (nsK hns)).run callerA [] s₁ H ⟨[.ref a], []⟩ [.ref a] [.ref a] _ _ hr rfl e0 (hbind s₁ (.ref a)) (.cons rfl .nil) (hsp H hO hS)) fun r s' h => ?_
    cases r with
    | error e => exact (hCX H e s' h).elim
    | ok fl =>
      cases fl with
      | next => exact False.elim h
      | brk => exact False.elim h
      | cont => exact False.elim h
      | ret u =>
        obtain ⟨v, H', os, bare, un, hok', r', q⟩ := h
        have q' : v = .bl true := q
        subst q'
        obtain rfl : u = Value.bool true := r'
        refine ⟨rfl, OldK.of_keep fun b o e => ?_, os, bare⟩
        cases q : H b with
        | none => exact un.keep b o e q (by intro z; exact absurd (show b ∈ ([] : List Addr) from z) (by simp)) (by simp)
        | some u =>
          rcases hO b with z | ⟨ob, xs, z⟩
          · rw [q] at z; cases z
          · have z2 := un.frzs b ob _ z
            obtain ⟨e1, _⟩ := hok b _ z
            obtain ⟨e2, _⟩ := hok' b _ z2
            rw [e] at e1; cases e1
            exact e2
  cases hk : K.lookup a with
  | some o =>
    have e := KX a o hk
    rw [ha] at e
    cases e
    refine core (fun _ => none) (fun _ => .inl rfl) (.inr ⟨_, vs.toArray, _, hk, rfl, rfl, rfl, by rw [List.size_toArray, lenV]; exact hl, by simpa using rv⟩) (fun b u z => by have z' : (none : Option HO) = some u := z; cases z') (fun b z => absurd rfl z) fun z => absurd rfl z
  | none =>
    refine core (fun b => if b = a then some (.frz { cls := .type "list", data := .seq vs.toArray } (.lst (ns.map V.int))) else none) (fun b => ?_) (.inl (.inr ⟨{ cls := .type "list", data := .seq vs.toArray }, if_pos rfl⟩)) (fun b u z => ?_) (fun b z => ?_) fun _ => hk
    · by_cases hb : b = a
      · exact .inr ⟨_, _, if_pos hb⟩
      · exact .inl (if_neg hb)
    · by_cases hb : b = a
      · have z' := (if_pos hb).symm.trans z
        cases z'
        subst hb
        exact ⟨ha, by rw [List.length_map]; exact hl, vs, _, rv, ha⟩
      · have z' := (if_neg hb).symm.trans z
        cases z'
    · by_cases hb : b = a
      · exact hb
      · exact absurd (if_neg hb) z
theorem walk_ofG {l : PySem.W.OpenLaw} {n k : Nat} {q : Program} {loose : List Str} {XP : (Str → Option Value) → Heap → Prop} {YP : World → Heap → Prop} {d : DefRec} {K : Params → PySem.W.Frag} {CX : World → CXT} {sp : World → Sp} {x : Str}
    (hn : l.most = some n) (hn2 : n ≤ sizeLine) (hdf : d.params.defaults = []) (hr : Room k callerA)
    (hY : ∀ (w : World) (h : Heap), YP w h → (K w.params).In h)
    (F : ∀ (w : World) (mg : Str → Option Value) (fa : Addr) (h : Heap), (K w.params).In h → h.Ns mainGlobals mg → mg d.name = some (.ref fa) →
      ∃ fd : FuncData, (∀ (s : Shared) (u : Value), BindsTo s fd ⟨[u], []⟩ [(x, u)]) ∧
        ∀ base : Heap, (K w.params).In base → base.Ns mainGlobals mg → FnOkG l.prog w (K w.params) mg base (CX w) k fa fd [x] (sp w))
    (hsp : ∀ (w : World) (H : Hp) (a : Addr) (ns : List Int), ns.length ≤ n → Only H → SqL (K w.params) H a (ns.map V.int) → sp w [.ref a] H (fun v _ => v = .bl true) fun _ _ _ => False)
    (hCX : ∀ (w : World) (H : Hp) (s : Shared) (e : Value) (s' : Shared), CX w [] H s (fun _ _ _ => False) e s' → False) :
    PySem.W.WalkO q loose XP YP l.row.toRowW d [] (fun f vs => PySem.call f vs) := by
  refine Att.attach_call hn hdf fun w s₀ s₁ mg mb fa o pm cd doc a vs ns G Y ho hd hcd hmg hobj hints hlen hg => ?_
  have KX := hY w _ Y
  obtain ⟨fd, hb, hF⟩ := F w mg fa _ KX G.T.g hmg
  exact law_callG KX G.T.g G.T.b G.T.builtins G.T.nolimit hg hobj hints (Nat.le_trans hlen hn2) hr hF hb (fun H hO hS => hsp w H a ns hlen hO hS) fun H e s' => hCX w H s₁ e s'
/-! ### repr -/
/-- things of which repr is told: data, and a flat dict -/
inductive Shw (K : PySem.W.Frag) (H : Hp) : V → PyData → Prop
  | dp {x : V} {d : PyData} (h : Dp K H x d) (n : d.hasDict = false) : Shw K H x d
  | dk {a : Addr} {kvs : List (Key × V)} (h : H a = some (.dK kvs)) (f : kvs.all (fun p => isPd p.2) = true) : Shw K H (.ref a) (.dict (kvs.map fun p => (pd (kV p.1), pd p.2)))
def rRepr (K : PySem.W.Frag) : List V → Hp → VK → Prop := fun xs H Q => ∃ x d, xs = [x] ∧ Shw K H x d ∧ d.showable = true ∧ d.depth ≤ 60 ∧ d.shown.length ≤ sizeLine ∧ Q (.str d.shown) H
theorem call_reprD {X : Cx} {pins : List (Addr × Obj)} {s : Shared} {σ : L2.St} {H : Hp} {Q : VK} {u : Value} {d : PyData} {as : List Addr} (hA : X.A.guards = some []) (hu : X.A.units + 64 < cLine) (I : Inv X pins σ H s) (r : Reads s.heap u d as) (hsm : d.hasDict = true → sysModules ∉ as)
    (hs : d.showable = true) (hd : d.depth ≤ 60) (hz : d.shown.length ≤ sizeLine) (q : Q (.str d.shown) H) : wpAny (model X.prog X.w) X.A (call (.builtin "repr") [u]) (EP X pins σ Q) X.xe s := by
  have fin : ∀ (h' : Heap) (tk : Tok) (u : Tok), (∀ b o, s.heap.get? b = some o → h'.get? b = some o) → EP X pins σ Q (.str d.shown u) { s with heap := h', toks := tk } := fun h' tk u hk =>
    ⟨.str d.shown, H, I.kept hk, ⟨u, rfl⟩, q⟩
  cases r with
  | none => exact PySem.P.repr_of_none (fin s.heap _ _ fun _ _ e => e)
  | bool b => exact PySem.P.repr_of_bool (by have := fin s.heap (s.toks + 1) s.toks fun _ _ e => e; simpa only [PyData.shown] using this)
  | int i t => exact PySem.P.repr_of_int (by simpa [PyData.showable] using hs) (by have := fin s.heap (s.toks + 1) s.toks fun _ _ e => e; simpa only [PyData.shown] using this)
  | str x t => exact PySem.P.repr_of_str (by have := fin s.heap (s.toks + 1) s.toks fun _ _ e => e; simpa only [PyData.shown] using this) (by simpa only [PyData.shown] using hz)
  | list h1 h2 h3 h4 => exact repr_of_reads' (.list h1 h2 h3 h4) hs hsm hA (by omega) (fun _ _ e => e) (fun h' u tk hk => fin h' tk u hk) hz
  | tuple h1 h2 h3 h4 => exact repr_of_reads' (.tuple h1 h2 h3 h4) hs hsm hA (by omega) (fun _ _ e => e) (fun h' u tk hk => fin h' tk u hk) hz
  | dict h1 h2 h3 h4 h5 => exact repr_of_reads' (.dict h1 h2 h3 h4 h5) hs hsm hA (by omega) (fun _ _ e => e) (fun h' u tk hk => fin h' tk u hk) hz
theorem pd_reads {h : Heap} {x : V} {u : Value} (hp : isPd x = true) (r : RelV x u) : Reads h u (pd x) [] := by
  cases x with
  | non =>
    cases r
    exact .none
  | bl b =>
    cases r
    exact .bool b
  | int i =>
    obtain ⟨t, rfl⟩ := r
    exact .int i t
  | str z =>
    obtain ⟨t, rfl⟩ := r
    exact .str z t
  | _ => cases hp
theorem kV_reads {h : Heap} {k : Key} {u : Value} (e : keyIs k u = true) : Reads h u (pd (kV k)) [] := by
  rcases keyIs_shape e with ⟨i, t, rfl, rfl⟩ | ⟨x, t, rfl, rfl⟩
  · exact .int i t
  · exact .str x t
theorem dk_reads {P : Program} {w : World} {h : Heap} : ∀ {es : List DictEntry} {vs : List (Key × Value)} {kvs : List (Key × V)}, Pairs (mixKind P w) es vs → KV kvs vs → kvs.all (fun p => isPd p.2) = true →
    ReadsAll h (es.map (·.key)) ((kvs.map fun p => (pd (kV p.1), pd p.2)).map (·.1)) [] ∧ ReadsAll h (es.map (·.val)) ((kvs.map fun p => (pd (kV p.1), pd p.2)).map (·.2)) []
  | _, _, _, .nil, .nil, _ => ⟨.nil, .nil⟩
  | _, _, _, .cons hk hv hr, .cons hp r2, hf => by
    rw [List.all_cons, Bool.and_eq_true] at hf
    obtain ⟨a, b⟩ := dk_reads hr r2 hf.2
    obtain ⟨e1, e2⟩ := hp
    refine ⟨ReadsAll.cons (as := []) (bs := []) ?_ a, ReadsAll.cons (as := []) (bs := []) ?_ b⟩
    · dsimp only
      rw [e1]
      exact kV_reads hk
    · dsimp only
      rw [hv]
      exact pd_reads hf.1 e2
theorem Shw.reads {X : Cx} {pins : List (Addr × Obj)} {s : Shared} {σ : L2.St} {H : Hp} (I : Inv X pins σ H s) {x : V} {d : PyData} {u : Value} (h : Shw X.K H x d) (r : RelV x u) : ∃ as, Reads s.heap u d as ∧ (d.hasDict = true → sysModules ∉ as) := by
  cases h with
  | dp h n =>
    obtain ⟨as, q⟩ := Dp.reads I d _ u h r
    exact ⟨as, q, PyData.noDict_hsm n⟩
  | dk h f =>
    cases r
    obtain ⟨_, hS, vs, rv, o, es, ep, e1, ex, e2, _, pr, _⟩ := I.hok _ _ h
    obtain ⟨q1, q2⟩ := dk_reads (h := s.heap) pr rv f
    refine ⟨_, Reads.dict e1 ex.1 e2 q1 q2, fun _ hm => ?_⟩
    simp only [List.append_nil, List.mem_cons, List.not_mem_nil, or_false] at hm
    rw [← hm] at hS
    exact absurd hS (by simp)
theorem call_repr {X : Cx} {K : PySem.W.Frag} (hA : X.A.guards = some []) (hu : X.A.units + 64 < cLine) (h : X.K = K := by rfl) : CallR X (.builtin "repr") (rRepr K) := by
  subst h
  intro pins s σ H xs us Q I r h
  obtain ⟨x, d, rfl, hs, h1, h2, h3, q⟩ := h
  obtain ⟨u, rfl, rx⟩ := vals1 r
  obtain ⟨as, hr, hsm⟩ := hs.reads I rx
  exact call_reprD hA hu I hr hsm h1 h2 h3 q
/-! ### x == x -/
def rEqS (K : PySem.W.Frag) : R2 := fun x y H Q => x = y ∧ (scal x x = true ∨ (∃ a xs, x = .ref a ∧ (SqL K H a xs ∨ SqT K H a xs)) ∨ ∃ a kvs, x = .ref a ∧ H a = some (.dK kvs) ∧ ∀ p ∈ kvs, valV kvs p.1 = some p.2 ∧ (flatB p.2 = true ∨ ∃ b, p.2 = .ref b)) ∧ Q (.bl true) H
theorem op_eqS {X : Cx} {K : PySem.W.Frag} (hu : X.A.units + 64 < cLine) (h : X.K = K := by rfl) : OpR X (compareOp .Eq) (rEqS K) := by
  subst h
  intro pins s σ H x y v u Q I rx ry h
  obtain ⟨rfl, h, q⟩ := h
  have fin : EP X pins σ Q (.bool true) s := ⟨.bl true, H, I, rfl, q⟩
  rcases h with h | ⟨a, xs, rfl, h⟩ | ⟨a, kvs, rfl, h, hk⟩
  · exact op_eq pins s σ H x x v u Q I rx ry ⟨h, by rw [decide_eq_true rfl]; exact q⟩
  · cases rx
    cases ry
    rcases h with h | h
    · obtain ⟨its, r', pl, hz⟩ := I.list h
      exact SeqAt.eq_listAt (e := fun _ => true) pl.isList pl.isList rfl (by omega) (fun j h1 h2 => SeqAt.EqAt.same _) (by rw [List.all_eq_true.mpr (fun _ _ => rfl)]; exact fin)
    · obtain ⟨its, r', pl, hz⟩ := I.tuple h
      exact SeqAt.eq_tupleAt (e := fun _ => true) pl pl (by omega) (fun j h1 h2 => SeqAt.EqAt.same _) (by rw [List.all_eq_true.mpr (fun _ _ => rfl), beq_self_eq_true]; exact fin)
  · refine eqR_run I (A := X.A) (F := EqV X.K H 1) (by omega) (eqV_run I 1 X.A.in1 (by show X.A.units + 1 + 1 < cLine; omega)) (.inr ⟨a, a, kvs, kvs, rfl, rfl, h, h, rfl, fun p hp => ⟨_, (hk p hp).1, ?_⟩⟩) rx ry _ _ fin
    rcases (hk p hp).2 with h | ⟨b, h⟩
    · exact .inl ⟨rfl, h⟩
    · exact .inr (.inl ⟨b, h, h⟩)
theorem op_eqVK {X : Cx} {K : PySem.W.Frag} (hu : X.A.units + 64 < cLine) (h : X.K = K := by rfl) : OpR X (compareOp .Eq) (rEqV K) := by
  subst h
  exact op_eqV hu
/-! ### o[:] = ys -/
section
variable {prog : Program} {w : World} {A : Around} {E : Value → Shared → Prop} {s : Shared}
theorem bounds_all (n : Nat) : sliceBounds none none none n = ((0 : Int), (n : Int), 1) := by
  simp only [sliceBounds, Option.getD_none]
  simp
set_option maxRecDepth 100000 in
/-- o[:] = another list: turned from the rule for a slice with both bounds -/
theorem setItem_sliceAll {l b sl : Addr} {items new : Array Value} {n n2 : Nat} {vl vu : Value} {Q : Unit → Shared → Prop}
    (e : s.heap.get? l = some { cls := .type "list", data := .seq items n }) (e2 : s.heap.get? b = some { cls := .type "list", data := .seq new n2 }) (hne : l ≠ b)
    (hs : s.heap.IsSliceOf sl vl vu .none) (pl : IsPart vl none) (pu : IsPart vu none)
    (hsz : items.size + new.size ≤ sizeLine) (h : Q () { s with heap := s.heap.update l (Obj.mapSeq fun xs => xs.extract 0 0 ++ new ++ xs.extract items.size xs.size) }) :
    wpAny (model prog w) A (setItem (.ref l) (.ref sl) (.ref b)) Q E s := by
  have hl : s.heap.IsList l items := PySem.IsL.isList e
  have hb : s.heap.IsList b new := PySem.IsL.isList e2
  obtain ⟨os, hos, hcs, hds⟩ := id hs
  have hTs : s.TypeIs (.ref sl) "slice" := ⟨os, hos, hcs⟩
  have hstep : ¬ ((rawPart none == rawInt 0) = true) := Bool.false_ne_true
  have hsame : Builtin.List.listSameRef (.ref l) (.ref b) = false := by
    unfold Builtin.List.listSameRef
    exact beq_eq_false_iff_ne.mpr hne
  have hmax : (max (0 : Int) (items.size : Int)).toNat = items.size := by omega
  have hz' : ((fun xs : Array Value => xs.extract 0 0 ++ new ++ xs.extract items.size xs.size) items).size ≤ sizeLine + 1 := by
    simp only [Array.size_append, Array.size_extract]
    omega
  unfold setItem
  try with_reducible refine wpAny_holding ?_
  first | refine wpAny_bind (wpAny_pure ?_) | skip
  refine wpAny_bind (wpAny_sequenceKey hl.typeIs (by decide) ?_)
  refine wpAny_bind (wpAny_callSpecial?_slot (name := Str.ofString "__setitem__") hl.typeIs slot_list_setitem
    (wpAny_call_entry slot_list_setitem hl.typeIs entry_list_setitem ?_ (args_list_setitem _ _ _)))
  show wpAny _ _ (Builtin.List.listSubscript? (.ref sl) >>= _) _ _ s
  refine wpAny_bind ?_
  unfold Builtin.List.listSubscript?
  refine wpAny_bind (wpAny_specialOf hTs slice_no_index ?_)
  simp only [Option.isNone_none, if_true]
  refine wpAny_pure ?_
  show wpAny _ _ (typeOf (.ref sl) >>= _) _ _ s
  refine wpAny_bind (wpAny_typeOf hTs ?_)
  first
    | rw [if_neg (by decide)]
    | refine PySem.W.KFB.if_not (by decide) ?_
  rw [listSliceParts_eq]
  refine wpAny_bind (wpAny_bind (wpAny_field hos hds (x := .none) rfl (wpAny_bind (wpAny_listPart .none ?_))))
  rw [if_neg hstep]
  refine wpAny_bind (wpAny_field hos hds (x := vl) rfl (wpAny_bind (wpAny_listPart pl ?_)))
  refine wpAny_bind (wpAny_field hos hds (x := vu) rfl (wpAny_bind (wpAny_listPart pu (wpAny_pure ?_))))
  first
    | simp only [hsame, Bool.false_eq_true, if_false]
    | refine PySem.W.KFB.if_not hsame ?_
    | (dsimp only
       rw [if_neg (by rw [hsame]; exact Bool.false_ne_true)])
  refine wpAny_bind (m := Builtin.List.listAllItems (.ref b) "must assign iterable to extended slice") ?_
  unfold Builtin.List.listAllItems
  refine wpAny_bind (wpAny_typeOf hb.typeIs ?_)
  first
    | refine PySem.W.KFB.if_so (by decide) ?_
    | rw [if_pos (by decide)]
    | simp only [beq_self_eq_true, Bool.true_or, if_true]
  unfold Builtin.List.listItems
  refine wpAny_bind (wpAny_seqItems e2 rfl (wpAny_pure ?_))
  refine wpAny_bind (wpAny_bind (wpAny_seqItems e rfl (wpAny_pure ?_)))
  refine wpAny_bind (wpAny_of_eq ((sliceIndices_raw none none none items.size (by simp)).trans (congrArg (pure : Int × Int × Int → Sem (Int × Int × Int)) (bounds_all items.size))) ?_)
  show wpAny _ _ (if ((1 : Int) == 1) = true then _ else _) _ _ s
  rw [if_pos (by decide)]
  refine wpAny_bind (wpAny_rule ?_)
  first
    | simp only [notLongL hsz, Bool.false_eq_true, if_false]
    | refine PySem.W.KFB.if_not (notLongL hsz) ?_
  first | refine wpAny_bind (wpAny_pure ?_) | skip
  show wpAny _ _ (updateSeq l (fun xs => xs.extract 0 ((0 : Int)).toNat ++ new ++ xs.extract (max (0 : Int) (items.size : Int)).toNat xs.size) >>= _) _ _ s
  rw [hmax]
  refine wpAny_bind (wpAny_updateSeq (hz := Nat.le_trans (Nat.le_add_right _ _) hsz) (_hz' := hz') e rfl ?_)
  refine wpAny_bind (wpAny_letGo ?_)
  first
    | exact wpAny_bind (wpAny_pure (wpAny_pure ⟨.none, rfl, wpAny_pure h⟩))
    | exact wpAny_pure ⟨.none, rfl, wpAny_pure h⟩
end
theorem set_all {X : Cx} {pins : List (Addr × Obj)} {s : Shared} {σ : L2.St} {H : Hp} {l b sl : Addr} {xs ys : List V} {Q : Unit → Shared → Prop} (I : Inv X pins σ H s)
    (hH : H l = some (.lst xs)) (hB : H b = some (.lst ys)) (hne : l ≠ b) (hs : s.heap.IsSliceOf sl .none .none .none)
    (hz : xs.length + ys.length ≤ sizeLine) (h : ∀ s', Inv X pins σ (upd H l (.lst ys)) s' → Q () s') :
    wpAny (model X.prog X.w) X.A (setItem (.ref l) (.ref sl) (.ref b)) Q X.xe s := by
  obtain ⟨z, its, n, r, hl, e⟩ := I.lstM hH
  obtain ⟨z2, its2, n2, r2, hl2, e2⟩ := I.lstM hB
  refine setItem_sliceAll e e2 hne hs .none .none (by rw [List.size_toArray, List.size_toArray]; omega) (h _ ?_)
  refine I.lset (its' := its2) (t' := s.toks) hH e ?_ r2 z2
  have q := splice_eq its its2 0 its.length
  rw [List.take_zero, List.nil_append, List.drop_length, List.append_nil] at q
  exact q
def gSlAll (to : TE) : TG := fun v σ H Q => to σ H fun x H1 => ∃ (l b : Addr) (xs ys : List V), x = .ref l ∧ v = .ref b ∧ H1 l = some (.lst xs) ∧ H1 b = some (.lst ys) ∧ l ≠ b ∧ xs.length + ys.length ≤ sizeLine ∧ Upd H1 l (.lst ys) fun H4 => Q σ H4
theorem pg_slall {X : Cx} {o : Expr} {to : TE} {p2 pos : Pos} (ho : PE X o to)
    (ha : ∀ v, assign (.Subscript o (.Slice none none none p2) pos) X.env v = (do
      let ov ← holding [v] (eval o X.env)
      let iv ← holding [v, ov] (eval (.Slice none none none p2) X.env)
      standAt pos
      holding [v, ov, iv] (setItem ov iv v)
      release [iv, v, ov] []) := by intro _; rfl) : PG X (.Subscript o (.Slice none none none p2) pos) (gSlAll to) := by
  refine ⟨fun pins s σ H v u Q I r h => ?_⟩
  rw [ha]
  refine wpAny_bind (wpAny_holding (thn (ho.run pins s σ H _ I h) fun ov s1 ⟨x, H1, I1, r1, q1⟩ => ?_))
  refine wpAny_bind (wpAny_holding ?_)
  refine wpAny_Slice ?_
  rw [evalPart_none]
  refine wpAny_pure (wpAny_pure (wpAny_pure ?_))
  obtain ⟨l, b, xs, ys, rfl, rfl, hl3, hb3, ne, hz, q⟩ := q1
  cases r
  cases r1
  have I4 : Inv X pins σ H1 { s1 with heap := s1.heap.push { cls := .type "slice", data := .fields #[.none, .none, .none] } } := I1.kept (t' := s1.toks) fun b ob q => Heap.get?_push_of_some _ q
  refine wpAny_bind (wpAny_standAt (wpAny_bind (wpAny_holding ?_)))
  refine set_all (s := { s1 with heap := s1.heap.push { cls := .type "slice", data := .fields #[.none, .none, .none] } }) I4 hl3 hb3 ne (Heap.IsSliceOf.new ..) hz fun s5 I5 => ?_
  exact wpAny_release ⟨σ, _, I5, q⟩
/-! ### isinstance of a caught exception with fields -/
def rIsX (K : PySem.W.Frag) (a : Addr) (cls : Value) (d : Option Addr) : List V → Hp → VK → Prop := fun xs H Q => ∃ (D dd : Addr) (c : V) (cv : Value) (fs : List (Str × V)) (b : Bool), xs = [.ref a, c] ∧ cls = .ref D ∧ ExcC K D ∧ d = some dd ∧ H dd = some (.xd fs) ∧ ClsV c cv ∧ PySem.W.kitOne K (.ref D) cv = some b ∧ Q (.bl b) H
theorem inst_of {X : Cx} {pins pn : List (Addr × Obj)} {s : Shared} {σ : L2.St} {H : Hp} {a D dd : Addr} {oe : Obj} {d : Option Addr} {fs : List (Str × V)} (hz : Zc (.ref D) (some dd) oe) (hf : ∃ vs, oe.data = .fields vs) (I : Inv (X.suite a ((a, oe) :: pn)) pins σ H s) (hd : H dd = some (.xd fs)) :
    ∃ od, PySem.W.InstAt s.heap a oe D (some od) := by
  obtain ⟨ha, _⟩ := I.pin (a, oe) (List.mem_append_left _ List.mem_cons_self)
  obtain ⟨vs, hv⟩ := hf
  have hx : ObjOk X.prog X.w H s.heap dd (.xd fs) := I.hok dd _ hd
  obtain ⟨mA, hns, hr⟩ := hx
  obtain ⟨od, ho, hl⟩ := lookIn_ns hns
  exact ⟨od, ha, hz.1, by unfold PySem.W.notCls; rw [hv] <;> rfl, by rw [hz.2]; exact ho⟩
theorem call_isX {X : Cx} {K : PySem.W.Frag} {a : Addr} {oe : Obj} {cls : Value} {d : Option Addr} {pn : List (Addr × Obj)} (hz : Zc cls d oe) (hf : ∃ vs, oe.data = .fields vs) (hK : X.K = K := by rfl) : CallR (X.suite a ((a, oe) :: pn)) (.builtin "isinstance") (rIsX K a cls d) := by
  subst hK
  intro pins s σ H xs us Q I r h
  obtain ⟨D, dd, c, cv, fs, b, rfl, rfl, C, rfl, hd, k, e, q⟩ := h
  obtain ⟨u1, u2, rfl, r1, r2⟩ := vals2 r
  cases r1
  have e2 := k.eq r2
  subst e2
  obtain ⟨od, J⟩ := inst_of (d := some dd) hz hf I hd
  obtain ⟨cd, hcd, _⟩ := PySem.W.any_some C.hd
  exact PySem.W.kia_one (PySem.W.kitx_exc (by rw [hcd]; rfl) C.hg C.hk C.hs C.ha C.hn C.ht C.hm) I.kIn J e (fun z => nomatch z) fun tk => ⟨.bl b, H, I.kept (t' := tk) fun _ _ z => z, rfl, q⟩
def rIsXT (K : PySem.W.Frag) (a : Addr) (cls : Value) (d : Option Addr) : List V → Hp → VK → Prop := fun xs H Q => ∃ (D dd tp : Addr) (cs : List V) (us : List Value) (fs : List (Str × V)) (b : Bool), xs = [.ref a, .ref tp] ∧ H tp = some (.tup cs) ∧ Paired ClsV cs us ∧ cls = .ref D ∧ ExcC K D ∧ d = some dd ∧ H dd = some (.xd fs) ∧ PySem.W.kitAny K (.ref D) us = some b ∧ Q (.bl b) H
theorem call_isXT {X : Cx} {K : PySem.W.Frag} {a : Addr} {oe : Obj} {cls : Value} {d : Option Addr} {pn : List (Addr × Obj)} (hz : Zc cls d oe) (hf : ∃ vs, oe.data = .fields vs) (hK : X.K = K := by rfl) : CallR (X.suite a ((a, oe) :: pn)) (.builtin "isinstance") (rIsXT K a cls d) := by
  subst hK
  intro pins s σ H xs us Q I r h
  obtain ⟨D, dd, tp, cs, ws, fs, b, rfl, hT, k, rfl, C, rfl, hd, e, q⟩ := h
  obtain ⟨u1, u2, rfl, r1, r2⟩ := vals2 r
  cases r1
  cases (show u2 = Value.ref tp from r2)
  obtain ⟨od, J⟩ := inst_of (d := some dd) hz hf I hd
  obtain ⟨cd, hcd, _⟩ := PySem.W.any_some C.hd
  obtain ⟨_, its, rv, o, h1, h2, n, h3⟩ := (show ObjOk X.prog X.w H s.heap tp (.tup cs) from I.hok tp _ hT)
  have e3 := ClsV.all k rv
  subst e3
  obtain ⟨oc, od', dt, sl⟩ := o
  simp only at h2 h3
  subst h2 h3
  exact PySem.W.kia_tup (PySem.W.kitx_exc (by rw [hcd]; rfl) C.hg C.hk C.hs C.ha C.hn C.ht C.hm) I.kIn J h1 e (fun z => nomatch z) fun tk => ⟨.bl b, H, I.kept (t' := tk) fun _ _ z => z, rfl, q⟩
theorem pe_gcl {X : Cx} {x : Str} {a : Addr} {pos : Pos} (hg : Gl X x) (hm : X.mg x = some (.ref a)) (hd : (x == ("__debug__" : Str)) = false := by decide) : PE X (.Name x pos) (tC (.ref a)) := pe_glob (v := .ref a) hg hm rfl hd
theorem kit_yes {K : PySem.W.Frag} {t : Value} {C : Addr} (hdct : PySem.W.hasDictIn K C = true) (ht : PySem.W.typeIn K (.ref C) = some (.type "type")) (h : PySem.W.subIn K t (.ref C) = some true) : PySem.W.kitOne K t (.ref C) = some true := by
  obtain ⟨cd, hc, _⟩ := PySem.W.any_some hdct
  have e2 : ((PySem.W.clsIn K C).isSome && PySem.W.typeIn K (.ref C) == some (.type "type")) = true := by rw [hc, ht] <;> rfl
  unfold PySem.W.kitOne
  split
  · rfl
  · show (if ((PySem.W.clsIn K C).isSome && PySem.W.typeIn K (.ref C) == some (.type "type")) = true then PySem.W.subIn K t (.ref C) else none) = some true
    rw [if_pos e2]
    exact h
theorem kit_no {K : PySem.W.Frag} {t : Value} {C : Addr} (hdct : PySem.W.hasDictIn K C = true) (ht : PySem.W.typeIn K (.ref C) = some (.type "type")) (h : PySem.W.subIn K t (.ref C) = some false) (n : (t == Value.ref C) = false) : PySem.W.kitOne K t (.ref C) = some false := by
  obtain ⟨cd, hc, _⟩ := PySem.W.any_some hdct
  have e2 : ((PySem.W.clsIn K C).isSome && PySem.W.typeIn K (.ref C) == some (.type "type")) = true := by rw [hc, ht] <;> rfl
  unfold PySem.W.kitOne
  rw [if_neg (by rw [n]; exact Bool.false_ne_true)]
  show (if ((PySem.W.clsIn K C).isSome && PySem.W.typeIn K (.ref C) == some (.type "type")) = true then PySem.W.subIn K t (.ref C) else none) = some false
  rw [if_pos e2]
  exact h
theorem kit_blt {K : PySem.W.Frag} {C : Addr} {T : String} (h : PySem.W.subIn K (.ref C) (.type T) = some true) (m : PySem.W.kitMeta T = true) : PySem.W.kitOne K (.ref C) (.type T) = some true := by
  unfold PySem.W.kitOne
  split
  · rfl
  · show (if PySem.W.kitMeta T = true then PySem.W.subIn K (.ref C) (.type T) else none) = some true
    rw [if_pos m]
    exact h
/-! ### a list and one of another length, or two empty ones -/
def rNeL (K : PySem.W.Frag) : R2 := fun x y H Q => ∃ a b xs ys, x = .ref a ∧ y = .ref b ∧ SqL K H a xs ∧ SqL K H b ys ∧ ((xs.length ≠ ys.length ∧ Q (.bl true) H) ∨ (xs = [] ∧ ys = [] ∧ Q (.bl false) H))
theorem op_neL {X : Cx} {K : PySem.W.Frag} (hu : X.A.units + 64 < cLine) (h : X.K = K := by rfl) : OpR X (compareOp .NotEq) (rNeL K) := by
  subst h
  intro pins s σ H x y v u Q I rx ry h
  obtain ⟨a, b, xs, ys, rfl, rfl, ha, hb, h⟩ := h
  cases rx
  cases ry
  obtain ⟨its, r, pl, hz⟩ := I.list ha
  obtain ⟨its2, r2, pl2, hz2⟩ := I.list hb
  rcases h with ⟨ne, q⟩ | ⟨rfl, rfl, q⟩
  · exact SeqAt.RcNeAt.lists_lengths pl.isList pl2.isList (by rw [List.size_toArray, List.size_toArray, ← r.length, ← r2.length]; simpa using ne) (by omega) _ _ _ _ ⟨.bl true, H, I, rfl, q⟩
  · cases r
    cases r2
    exact SeqAt.RcNeAt.lists (e := fun _ => true) pl.isList pl2.isList rfl (by omega) (fun j h1 h2 => absurd h1 (by simp)) _ _ _ _ ⟨.bl false, H, I, rfl, q⟩
/-! ### two lists of the very same things -/
def atom (x : V) : Bool := match x with
  | .ref _ => true
  | x => flatB x
def rNeV (K : PySem.W.Frag) : R2 := fun x y H Q => ∃ a b xs, x = .ref a ∧ y = .ref b ∧ SqL K H a xs ∧ SqL K H b xs ∧ xs.all atom = true ∧ Q (.bl false) H
theorem atom_eq {A : Around} {s : Shared} {v : V} {u u' : Value} (r : RelV v u) (r' : RelV v u') (f : atom v = true) : SeqAt.EqAt A s u u' true := by
  cases v with
  | ref a =>
    cases r
    cases r'
    exact SeqAt.EqAt.same _
  | _ => exact eqAt_same r r' f
theorem op_neV {X : Cx} {K : PySem.W.Frag} (hu : X.A.units + 64 < cLine) (h : X.K = K := by rfl) : OpR X (compareOp .NotEq) (rNeV K) := by
  subst h
  intro pins s σ H x y v u Q I rx ry h
  obtain ⟨a, b, xs, rfl, rfl, ha, hb, hx, q⟩ := h
  cases rx
  cases ry
  obtain ⟨its, r, pl, hz⟩ := I.list ha
  obtain ⟨its2, r2, pl2, hz2⟩ := I.list hb
  refine SeqAt.RcNeAt.lists (e := fun _ => true) pl.isList pl2.isList (by rw [List.size_toArray, List.size_toArray, ← r.length, ← r2.length]) (by omega) (fun j h1 h2 => ?_) _ _ _ _ (by rw [List.all_eq_true.mpr (fun _ _ => rfl)]; exact ⟨.bl false, H, I, rfl, q⟩)
  have k1 : j < its.length := by simpa using h1
  have k2 : j < its2.length := by simpa using h2
  have k : j < xs.length := by rw [r.length]; exact k1
  obtain ⟨u1, hu1, ru1⟩ := r.get (List.getElem?_eq_getElem k)
  obtain ⟨u2, hu2, ru2⟩ := r2.get (List.getElem?_eq_getElem k)
  rw [List.getElem?_eq_getElem k1] at hu1
  rw [List.getElem?_eq_getElem k2] at hu2
  have e1 : its.toArray[j] = u1 := by simpa using hu1
  have e2 : its2.toArray[j] = u2 := by simpa using hu2
  rw [e1, e2]
  exact atom_eq ru1 ru2 (List.all_eq_true.mp hx _ (List.getElem_mem k))
theorem eqV_atoms {K : PySem.W.Frag} {H : Hp} {n : Nat} : ∀ {xs : List V}, xs.all atom = true → Paired (EqV K H (n + 1)) xs xs
  | [], _ => .nil
  | x :: r, h => by
    rw [List.all_cons, Bool.and_eq_true] at h
    refine .cons ?_ (eqV_atoms h.2)
    cases x with
    | ref a => exact .inr (.inl ⟨a, rfl, rfl⟩)
    | _ => exact .inl ⟨rfl, h.1⟩
/-- two lists of the very same things are equal -/
theorem eqV_lists {K : PySem.W.Frag} {H : Hp} {a b : Addr} {xs : List V} {Q : VK} (ha : SqL K H a xs) (hb : SqL K H b xs) (hx : xs.all atom = true) (q : Q (.bl true) H) : rEqV K (.ref a) (.ref b) H Q :=
  ⟨1, by decide, .inl ⟨a, b, xs, xs, rfl, rfl, ha, hb, eqV_atoms hx⟩, q⟩
end Rg

set_option Elab.async false
set_option linter.all false
set_option pp.deepTerms true
set_option pp.maxSteps 100000
set_option format.indent 1
set_option format.width 260
set_option maxRecDepth 100000
set_option maxHeartbeats 4000000
namespace K52
open PySem PySem.Spec PyProof.Rows L2 Rb Rx SX Tx Rg
def topS (i : Nat) : Stmt := PySem.Challenge.pw_roomslaid_k52_lines_refused_and_looks.main.body.getD i (.Pass ⟨0, 0, 0, 0⟩)
abbrev s_wall : Stmt := topS 0
abbrev s_NoPlace_init : Stmt := inClass (topS 3) 0
abbrev s_NoLine_init : Stmt := inClass (topS 4) 0
abbrev s_NoKeep_init : Stmt := inClass (topS 5) 0
abbrev s_is_whole : Stmt := topS 7
abbrev s_is_within : Stmt := topS 8
abbrev s_is_place : Stmt := topS 13
abbrev s_need_place : Stmt := topS 14
abbrev s_last_cell : Stmt := topS 15
abbrev s_cells_in : Stmt := topS 16
abbrev s_lines_of : Stmt := topS 19
abbrev s_looks_between : Stmt := topS 20
abbrev s_need_line : Stmt := topS 23
abbrev s_need_lines : Stmt := topS 24
abbrev s_need_bound : Stmt := topS 25
abbrev s_Kept_init : Stmt := inClass (topS 26) 0
abbrev s_Kept_touch : Stmt := inClass (topS 26) 1
abbrev s_Kept_lines_kept : Stmt := inClass (topS 26) 2
abbrev s_fetches : Stmt := topS 27
abbrev s_how_many : Stmt := topS 28
abbrev s_distances : Stmt := topS 29
abbrev s_missed : Stmt := topS 30
abbrev s_counts : Stmt := topS 31
abbrev s_is_fetch : Stmt := topS 32
abbrev s_is_fetches : Stmt := topS 33
abbrev s_law_drawn : Stmt := topS 35
abbrev s_law_asked : Stmt := topS 36
abbrev s_law_refused : Stmt := topS 37
abbrev s_law_bad : Stmt := topS 38
abbrev s_law_held : Stmt := topS 39
abbrev s_law_looks : Stmt := topS 40
abbrev s_law : Stmt := topS 41
theorem sc_wall : FnScope ["k"] ["k"] (defScope s_wall) := ⟨rfl, rfl, rfl, by decide +kernel, rfl, by decide +kernel, by decide +kernel⟩
theorem sc_NoPlace_init : FnScope ["self", "found"] ["self", "found"] (defScope s_NoPlace_init) := ⟨rfl, rfl, rfl, by decide +kernel, rfl, by decide +kernel, by decide +kernel⟩
theorem sc_NoLine_init : FnScope ["self", "found"] ["self", "found"] (defScope s_NoLine_init) := ⟨rfl, rfl, rfl, by decide +kernel, rfl, by decide +kernel, by decide +kernel⟩
theorem sc_NoKeep_init : FnScope ["self", "found"] ["self", "found"] (defScope s_NoKeep_init) := ⟨rfl, rfl, rfl, by decide +kernel, rfl, by decide +kernel, by decide +kernel⟩
theorem sc_is_whole : FnScope ["thing"] ["thing"] (defScope s_is_whole) := ⟨rfl, rfl, rfl, by decide +kernel, rfl, by decide +kernel, by decide +kernel⟩
theorem sc_is_within : FnScope ["thing", "low", "high"] ["thing", "low", "high"] (defScope s_is_within) := ⟨rfl, rfl, rfl, by decide +kernel, rfl, by decide +kernel, by decide +kernel⟩
theorem sc_is_place : FnScope ["thing", "cell", "shift", "bits"] ["thing"] (defScope s_is_place) := ⟨rfl, rfl, rfl, by decide +kernel, rfl, by decide +kernel, by decide +kernel⟩
theorem sc_need_place : FnScope ["thing"] ["thing"] (defScope s_need_place) := ⟨rfl, rfl, rfl, by decide +kernel, rfl, by decide +kernel, by decide +kernel⟩
theorem sc_last_cell : FnScope ["place"] ["place"] (defScope s_last_cell) := ⟨rfl, rfl, rfl, by decide +kernel, rfl, by decide +kernel, by decide +kernel⟩
theorem sc_cells_in : FnScope ["place", "k"] ["place"] (defScope s_cells_in) := ⟨rfl, rfl, rfl, by decide +kernel, rfl, by decide +kernel, by decide +kernel⟩
theorem sc_lines_of : FnScope ["places", "wide", "found", "place", "cells", "line"] ["places", "wide"] (defScope s_lines_of) := ⟨rfl, rfl, rfl, by decide +kernel, rfl, by decide +kernel, by decide +kernel⟩
theorem sc_looks_between : FnScope ["rows", "places", "first", "last", "found", "row", "touched"] ["rows", "places", "first", "last"] (defScope s_looks_between) := ⟨rfl, rfl, rfl, by decide +kernel, rfl, by decide +kernel, by decide +kernel⟩
theorem sc_need_line : FnScope ["line"] ["line"] (defScope s_need_line) := ⟨rfl, rfl, rfl, by decide +kernel, rfl, by decide +kernel, by decide +kernel⟩
theorem sc_need_lines : FnScope ["lines", "line"] ["lines"] (defScope s_need_lines) := ⟨rfl, rfl, rfl, by decide +kernel, rfl, by decide +kernel, by decide +kernel⟩
theorem sc_need_bound : FnScope ["most"] ["most"] (defScope s_need_bound) := ⟨rfl, rfl, rfl, by decide +kernel, rfl, by decide +kernel, by decide +kernel⟩
theorem sc_Kept_init : FnScope ["self", "most"] ["self", "most"] (defScope s_Kept_init) := ⟨rfl, rfl, rfl, by decide +kernel, rfl, by decide +kernel, by decide +kernel⟩
theorem sc_Kept_touch : FnScope ["self", "line", "out", "fetched"] ["self", "line"] (defScope s_Kept_touch) := ⟨rfl, rfl, rfl, by decide +kernel, rfl, by decide +kernel, by decide +kernel⟩
theorem sc_Kept_lines_kept : FnScope ["self"] ["self"] (defScope s_Kept_lines_kept) := ⟨rfl, rfl, rfl, by decide +kernel, rfl, by decide +kernel, by decide +kernel⟩
theorem sc_fetches : FnScope ["lines", "most", "store", "found", "line", "fetched", "out"] ["lines", "most"] (defScope s_fetches) := ⟨rfl, rfl, rfl, by decide +kernel, rfl, by decide +kernel, by decide +kernel⟩
theorem sc_how_many : FnScope ["lines", "most", "row"] ["lines", "most"] (defScope s_how_many) := ⟨rfl, rfl, rfl, by decide +kernel, rfl, by decide +kernel, by decide +kernel⟩
theorem sc_distances : FnScope ["lines", "had", "found", "line"] ["lines"] (defScope s_distances) := ⟨rfl, rfl, rfl, by decide +kernel, rfl, by decide +kernel, by decide +kernel⟩
theorem sc_missed : FnScope ["found", "bound", "far"] ["found", "bound"] (defScope s_missed) := ⟨rfl, rfl, rfl, by decide +kernel, rfl, by decide +kernel, by decide +kernel⟩
theorem sc_counts : FnScope ["lines", "most", "found", "bound"] ["lines", "most"] (defScope s_counts) := ⟨rfl, rfl, rfl, by decide +kernel, rfl, by decide +kernel, by decide +kernel⟩
theorem sc_is_fetch : FnScope ["row", "line", "due"] ["row", "line", "due"] (defScope s_is_fetch) := ⟨rfl, rfl, rfl, by decide +kernel, rfl, by decide +kernel, by decide +kernel⟩
theorem sc_is_fetches : FnScope ["lines", "most", "thing", "store", "line", "row"] ["lines", "most", "thing"] (defScope s_is_fetches) := ⟨rfl, rfl, rfl, by decide +kernel, rfl, by decide +kernel, by decide +kernel⟩
theorem sc_law_drawn : FnScope ["_law_cell", "_law_sizes", "_law_found", "_law_many", "_law_one", "_law_other"] ["_law_cell", "_law_sizes"] (defScope s_law_drawn) := ⟨rfl, rfl, rfl, by decide +kernel, rfl, by decide +kernel, by decide +kernel⟩
theorem sc_law_asked : FnScope ["_law_which", "_law_lines", "_law_most"] ["_law_which", "_law_lines", "_law_most"] (defScope s_law_asked) := ⟨rfl, rfl, rfl, by decide +kernel, rfl, by decide +kernel, by decide +kernel⟩
theorem sc_law_refused : FnScope ["_law_which", "_law_lines", "_law_most", "_law_word", "_law_thing", "_law_found", "e"] ["_law_which", "_law_lines", "_law_most", "_law_word", "_law_thing"] (defScope s_law_refused) := ⟨rfl, rfl, rfl, by decide +kernel, rfl, by decide +kernel, by decide +kernel⟩
theorem sc_law_bad : FnScope ["_law_draws", "_law_line", "_law_bound", "_law_wide", "_law_place"] ["_law_draws"] (defScope s_law_bad) := ⟨rfl, rfl, rfl, by decide +kernel, rfl, by decide +kernel, by decide +kernel⟩
theorem sc_law_held : FnScope ["_law_draws", "_law_line", "_law_bound", "_law_wide", "_law_place", "_law_lines", "_law_k", "_law_bad_here", "_law_which", "_law_good", "_law_rows"] ["_law_draws"] (defScope s_law_held) := ⟨rfl, rfl, rfl, by decide +kernel, rfl, by decide +kernel, by decide +kernel⟩
theorem sc_law_looks : FnScope ["_law_draws", "_law_rows", "_law_places", "_law_k", "_law_number", "_law_j", "_law_first", "_law_last", "_law_due", "_law_handed", "_law_some", "_law_told"] ["_law_draws"] (defScope s_law_looks) := ⟨rfl, rfl, rfl, by decide +kernel, rfl, by decide +kernel, by decide +kernel⟩
theorem sc_law : FnScope ["_law_script", "_law_cell", "_law_draws"] ["_law_script"] (defScope s_law) := ⟨rfl, rfl, rfl, by decide +kernel, rfl, by decide +kernel, by decide +kernel⟩
local macro_rules | `(tactic| walk_at "rd") => `(tactic| simp only [L2.start, rRepr, rIsX, rIsXT, gSlAll, rEqS, rNeL, rNeV, cxOf, tSeq, tAsg, tIfS, tTest, tB, tOp, tUn, tVar, tC, tCB, tCons, tNil, tRet, tRetN, tNext, tDrop, tBM, tBM0, tLst_n, tTup_n, tAnd, tOr, tNot, tAndV, tOrV, tNotV, tIf, tChain, tCall, gName, gTup, gCons, gNil, gUnl, gSub, rI, rI0, rU, rIxL, rIxT, rSlL_n, tSl, tPart, tNoPart, rCatR, rAppend_n, rExtend_n, rPop_n, rClear_n, rSetL_n, rInsert, rRemI_n, tMake_n, sFld_n, tFld, tMeth, rIn, tFor_n, tLc_n, iRngL1, iRngL2, iList, iTup, iRev, iZip, rDivmod, rListOf, rTupOf, rLenSeq, rMin2, rMax2, rAll, rAny, rIsi, tNever, tYes, wipe, tAug, ipI, rEq, rNe, tIsN, tNotN, tDNewK_n, tRz, tCallS, tMethX, tMakeX, tXfA, wAs, wOnly, tVeI, tOst, gSlS, iRng3, rSum, rStrI, rIsB, rNotB, rSlT, rIndex, rRep_n, rInt1, tLenSetS, scal_ii, scal_bb, scal_ss, scal_nn, scal_ni, scal_in, scal_ns, scal_sn, scal_is, scal_si, List.map_cons, List.map_nil, List.length_cons, List.length_nil, List.replicate, List.nil_append, List.cons_append, List.append_nil, List.getElem?_cons_zero, List.getElem?_cons_succ, List.set_cons_zero, List.set_cons_succ, List.set_nil, Nat.reduceAdd, Nat.reduceSub, Option.some.injEq, V.int.injEq, V.ref.injEq, V.bl.injEq, V.str.injEq, V.ty.injEq, List.cons.injEq, and_assoc, and_true, true_and, exists_eq_left, exists_eq_left', exists_and_left, exists_and_right, exists_eq, exists_eq', exists_eq_right, exists_eq_right', if_true, if_false, Bool.false_eq_true, Bool.not_true, Bool.not_false, if_pos, Int.toNat_natCast, decide_eq_true_eq, Bool.not_eq_true', decide_eq_false_iff_not, reduceCtorEq, false_and, and_false, exists_false, exists_const, rIxS, C8.rSlX, rJoinS, rSplitS, tBMS, rIndexX, iStr, tDisp, tPairs])
local macro_rules | `(tactic| walk_at "ex") => `(tactic| repeat' (first | assumption | (with_reducible refine Exists.intro _ ?_) | (with_reducible refine And.intro ?_ ?_) | rfl))

/-! ### the law's draws -/
def Drawn : List Int → List Int → Prop := Paired fun m v => 0 ≤ v ∧ v < m
theorem Drawn.snoc {m v : Int} : ∀ {ms vs : List Int}, Drawn ms vs → 0 ≤ v ∧ v < m → Drawn (ms ++ [m]) (vs ++ [v])
  | _, _, .nil, h => .cons h .nil
  | _, _, .cons r t, h => .cons r (Drawn.snoc t h)
theorem Drawn.len {ms vs : List Int} (d : Drawn ms vs) : ms.length = vs.length := Paired.length d
def spDrawn (K : PySem.W.Frag) : Sp := fun vs H Q _ => ∃ (z : Int) (b : Addr) (ms : List Int), vs = [.int z, .ref b] ∧ SqL K H b (ms.map V.int) ∧ (∀ m ∈ ms, 0 < m ∧ m < 2 ^ 200) ∧ ms.length ≤ 100 ∧
  ∀ p H1 ws, H p = none → Same H H1 → H1 p = some (.lst (ws.map V.int)) → Drawn ms ws → Q (.ref p) H1
section
variable {P : Program} {w : World} {K : PySem.W.Frag} {mg : Str → Option Value} {base : Heap}
theorem ok_drawn {f : Addr} {fd : FuncData} (F : Fun K "_law_drawn" "_law_drawn" s_law_drawn f fd) : FnOk P w K mg base CX0 1 f fd ["_law_cell", "_law_sizes"] (spDrawn K) := by
  refine F.ok sc_law_drawn (fun vs H Q E h => ?_) (fun cdv A outer s H vs Q E hr h => ?_)
  · obtain ⟨z, b, ms, rfl, _⟩ := h
    rfl
  · obtain ⟨z, b, ms, rfl, hS, hm, hl, q⟩ := h
    refine ⟨_, (pss_cons (ps_set (i := 2) sc_law_drawn.nd rfl (by first | exact Or.inl rfl | exact Or.inr rfl) (pe_lst pa_nil))
      (pss_cons (ps_if (pt_cmpR op_ge (pv 0) (pe_op op_pow pe_int pe_int) (nomark _)) (pss_cons (ps_for PassesOwn.never rfl (pi_listK (pv 1) (K := K)) (pg_name (i := 3) sc_law_drawn.nd rfl (by first | exact Or.inl rfl | exact Or.inr rfl)) (pss_cons (ps_expr (pe_bmK (K := K) PySem.F.plainAttrs_list PySem.F.slot_list_append PySem.F.type_list_append mt_append (pv 2) (pa_cons (pe_op op_modN (pv 0) (pv 3)) pa_nil)))
      (pss_one (ps_set (i := 0) sc_law_drawn.nd rfl (by first | exact Or.inl rfl | exact Or.inr rfl) (pe_op op_fdivW (pv 0) (pv 3))))))
      (pss_one (ps_ret (pv 2)))) pss_nil)
      (pss_cons (ps_set (i := 4) sc_law_drawn.nd rfl (by first | exact Or.inl rfl | exact Or.inr rfl) (pe_op op_modN (pe_op op_add (pe_op op_mul (pv 0) pe_int) pe_int) pe_int))
      (pss_cons (ps_set (i := 5) sc_law_drawn.nd rfl (by first | exact Or.inl rfl | exact Or.inr rfl) (pe_op op_modN (pe_op op_add (pe_op op_mul (pv 0) pe_int) pe_int) pe_int))
      (pss_cons (ps_set (i := 4) sc_law_drawn.nd rfl (by first | exact Or.inl rfl | exact Or.inr rfl) (pe_op op_modN (pe_op op_add (pe_op op_add (pe_op op_mulX (pv 4) (pv 4)) (pe_op op_mul pe_int (pv 4))) pe_int) pe_int))
      (pss_cons (ps_for PassesOwn.never rfl (pi_listK (pv 1) (K := K)) (pg_name (i := 3) sc_law_drawn.nd rfl (by first | exact Or.inl rfl | exact Or.inr rfl)) (pss_cons (ps_set (i := 4) sc_law_drawn.nd rfl (by first | exact Or.inl rfl | exact Or.inr rfl) (pe_op op_modN (pe_op op_add (pe_op op_add (pe_op op_mulX (pv 4) (pv 4)) (pe_op op_mul pe_int (pv 4))) pe_int) pe_int))
      (pss_cons (ps_set (i := 5) sc_law_drawn.nd rfl (by first | exact Or.inl rfl | exact Or.inr rfl) (pe_op op_modN (pe_op op_add (pe_op op_add (pe_op op_mul (pv 5) pe_int) (pe_op op_mul pe_int (pe_op op_modN (pv 4) pe_int))) pe_int) pe_int))
      (pss_one (ps_expr (pe_bmK (K := K) PySem.F.plainAttrs_list PySem.F.slot_list_append PySem.F.type_list_append mt_append (pv 2) (pa_cons (pe_op op_modN (pe_op op_add (pe_op op_mul (pv 4) pe_int) (pv 5)) (pv 3)) pa_nil)))))))
      (pss_one (ps_ret (pv 2))))))))), ?_⟩
    walk_at "rd"
    refine ⟨by decide, New.intro fun p H1 np s1 h1 => ⟨⟨by decide, by decide, by decide⟩, ite2 (fun c => ?_) (fun c => ?_)⟩⟩
    · refine ⟨⟨_, s1.seq hS⟩, Loop.list (xs := ms.map V.int) (fun i σ H2 => ∃ y x1 x2 ws, σ = [some (.int y), some (.ref b), some (.ref p), x1, x2, none] ∧ Same H H2 ∧ H2 p = some (.lst (ws.map V.int)) ∧ Drawn (ms.take i) ws) ⟨z, none, none, [], rfl, s1, h1, .nil⟩ ?_ ?_ ?_⟩
      · rintro i σ H2 _ ⟨y, x1, x2, ws, rfl, s2, _⟩
        exact s2.seq hS
      · rintro i x σ H2 hx ⟨y, x1, x2, ws, rfl, s2, h2, dr⟩
        obtain ⟨m, hmi, rfl⟩ := int_at hx
        obtain ⟨m0, m1⟩ := hm m (List.mem_of_getElem? hmi)
        have dl := dr.len
        walk_at "rd"
        refine ⟨tyv_list (seq_of h2), by omega, _, h2, small1000 (by rw [List.length_map, ← dl, List.length_take]; omega), Upd.intro fun H3 o3 h3 => ⟨wide_div (b := 200) m0 (by omega) (by decide) (by decide), Same.off s2 np o3, ws ++ [y.fmod m], ?_, ?_⟩⟩
        · rw [h3, List.map_append]
          rfl
        · rw [take_snoc hmi]
          exact dr.snoc ⟨Int.fmod_nonneg_of_pos _ m0, Int.fmod_lt_of_pos _ m0⟩
      · rintro σ H2 ⟨y, x1, x2, ws, rfl, s2, h2, dr⟩
        walk_at "rd"
        rw [List.length_map, List.take_length] at dr
        exact q p H2 ws np s2 h2 dr
    · refine ⟨.inr ⟨by decide, by decide⟩, by decide, .inr ⟨by decide, by decide⟩, by decide, ?_⟩
      have p1 := Int.fmod_nonneg_of_pos (z * 48271 + 11) (show (0 : Int) < 2147483647 by decide)
      have p2 := Int.fmod_lt_of_pos (z * 48271 + 11) (show (0 : Int) < 2147483647 by decide)
      refine ⟨mulx_ok (a := 40) (b := 40) (by omega) (by omega) (by decide), .inl ⟨by decide, by decide⟩, by decide, ⟨_, s1.seq hS⟩, ?_⟩
      refine Loop.list (xs := ms.map V.int) (fun i σ H2 => ∃ x1 u v ws, σ = [some (.int z), some (.ref b), some (.ref p), x1, some (.int u), some (.int v)] ∧ (0 ≤ u ∧ u < 2147483647) ∧ Same H H2 ∧ H2 p = some (.lst (ws.map V.int)) ∧ Drawn (ms.take i) ws)
        ⟨none, _, _, [], rfl, ⟨Int.fmod_nonneg_of_pos _ (by decide), Int.fmod_lt_of_pos _ (by decide)⟩, s1, h1, .nil⟩ ?_ ?_ ?_
      · rintro i σ H2 _ ⟨x1, u, v, ws, rfl, _, s2, _⟩
        exact s2.seq hS
      · rintro i x σ H2 hx ⟨x1, u, v, ws, rfl, ⟨u0, u1⟩, s2, h2, dr⟩
        obtain ⟨m, hmi, rfl⟩ := int_at hx
        obtain ⟨m0, m1⟩ := hm m (List.mem_of_getElem? hmi)
        have dl := dr.len
        walk_at "rd"
        refine ⟨mulx_ok (a := 40) (b := 40) (by omega) (by omega) (by decide), .inl ⟨by decide, by decide⟩, by decide, .inr ⟨by decide, by decide⟩, by decide, .inl ⟨by decide, by decide⟩, by decide, tyv_list (seq_of h2), .inr ⟨by decide, by decide⟩, by omega, _, h2,
          small1000 (by rw [List.length_map, ← dl, List.length_take]; omega), Upd.intro fun H3 o3 h3 => ⟨Int.fmod_nonneg_of_pos _ (by decide), Int.fmod_lt_of_pos _ (by decide), Same.off s2 np o3, ?_⟩⟩
        have fin : ∀ y : Int, 0 ≤ y → y < m → H3 p = some (.lst (ws.map V.int ++ [.int y])) → ∃ ws' : List Int, H3 p = some (.lst (ws'.map V.int)) ∧ Drawn (ms.take (i + 1)) ws' := fun y y0 y1 e =>
          ⟨ws ++ [y], by rw [e, List.map_append]; rfl, by rw [take_snoc hmi]; exact dr.snoc ⟨y0, y1⟩⟩
        exact fin _ (Int.fmod_nonneg_of_pos _ m0) (Int.fmod_lt_of_pos _ m0) h3
      · rintro σ H2 ⟨x1, u, v, ws, rfl, _, s2, h2, dr⟩
        walk_at "rd"
        rw [List.length_map, List.take_length] at dr
        exact q p H2 ws np s2 h2 dr
end

/-! ### words.py -/
def isIn : V → Int → Int → Bool
  | .int i, lo, hi => decide (lo ≤ i) && decide (i ≤ hi)
  | _, _, _ => false
def spIsWhole (K : PySem.W.Frag) : Sp := fun vs H Q _ => ∃ (x : V) (T : String), vs = [x] ∧ Thg K H x T ∧ Q (.bl (isWh x)) H
def spIsWithin (K : PySem.W.Frag) : Sp := fun vs H Q _ => ∃ (x : V) (T : String) (lo hi : Int), vs = [x, .int lo, .int hi] ∧ Thg K H x T ∧ Q (.bl (isIn x lo hi)) H
section
variable {P : Program} {w : World} {K : PySem.W.Frag} {mg : Str → Option Value} {base : Heap}
theorem ok_isWhole {f : Addr} {fd : FuncData} (F : Fun K "is_whole" "is_whole" s_is_whole f fd) (z_isinstance : mg "isinstance" = none) (z_int : mg "int" = none) (z_bool : mg "bool" = none) : FnOk P w K mg base CX0 1 f fd ["thing"] (spIsWhole K) := by
  refine F.ok sc_is_whole (fun vs H Q E h => ?_) (fun cdv A outer s H vs Q E hr h => ?_)
  · obtain ⟨x, T, rfl, _⟩ := h
    rfl
  · obtain ⟨x, T, rfl, t, q⟩ := h
    refine ⟨_, (pss_one (ps_ret (pe_and (pe_callB (call_isiK' (K := K)) (by rfl) z_isinstance (by decide +kernel) (pa_cons (pv 0) (pa_cons (pe_bltn (v := V.ty "int") (u := Value.type "int") (by rfl) z_int (by decide +kernel) rfl) pa_nil))) (pe_one (pe_not (pe_callB (call_isiK' (K := K)) (by rfl) z_isinstance (by decide +kernel) (pa_cons (pv 0) (pa_cons (pe_bltn (v := V.ty "bool") (u := Value.type "bool") (by rfl) z_bool (by decide +kernel) rfl) pa_nil)))))))), ?_⟩
    walk_at "rd"
    have e := isWh_of t
    refine isiT t (by decide) (ite2 (fun c => isiT t (by decide) ?_) (fun c => ?_))
    · rw [c, Bool.true_and] at e
      rw [e]
      exact q
    · rw [Bool.eq_false_iff.mpr c, Bool.false_and] at e
      rw [e]
      exact q
theorem ok_isWithin {f : Addr} {fd : FuncData} (F : Fun K "is_within" "is_within" s_is_within f fd) (D_is_whole : Dn P w K mg base CX0 1 "is_whole" ["thing"] (spIsWhole K)) : FnOk P w K mg base CX0 2 f fd ["thing", "low", "high"] (spIsWithin K) := by
  refine F.ok sc_is_within (fun vs H Q E h => ?_) (fun cdv A outer s H vs Q E hr h => ?_)
  · obtain ⟨x, T, lo, hi, rfl, _⟩ := h
    rfl
  · obtain ⟨x, T, lo, hi, rfl, t, q⟩ := h
    refine ⟨_, (pss_one (ps_ret (pe_and (pe_cd D_is_whole (hr.mono (by decide)) (by rfl) pass0 (pa_cons (pv 0) pa_nil)) (pe_one (pe_chain op_le op_le (pv 1) (pv 0) (pv 2)))))), ?_⟩
    walk_at "rd"
    refine ⟨x, T, rfl, t, _, rfl, ?_⟩
    cases x with
    | int i =>
      have e : isIn (.int i) lo hi = (decide (lo ≤ i) && decide (i ≤ hi)) := rfl
      rw [e] at q
      refine iteT ⟨i, rfl, ite2 (fun c => ⟨i, rfl, ?_⟩) (fun c => ?_)⟩
      · rw [decide_eq_true c, Bool.true_and] at q
        exact q
      · rw [decide_eq_false c, Bool.false_and] at q
        exact q
    | _ => exact iteF q
end

/-! ### the mathematics: lines kept by last use -/
def dd : List Int → List Int
  | [] => []
  | x :: r => x :: (dd r).filter fun y => decide (y ≠ x)
theorem mem_dd {x : Int} : ∀ {ys : List Int}, x ∈ dd ys ↔ x ∈ ys
  | [] => Iff.rfl
  | y :: r => by
    show x ∈ y :: (dd r).filter _ ↔ _
    rw [List.mem_cons, List.mem_cons, List.mem_filter, mem_dd (ys := r), decide_eq_true_eq]
    by_cases h : x = y
    · simp [h]
    · simp [h]
theorem nd_dd : ∀ ys : List Int, (dd ys).Nodup
  | [] => List.nodup_nil
  | y :: r => by
    show (y :: (dd r).filter _).Nodup
    rw [List.nodup_cons]
    refine ⟨fun h => ?_, (nd_dd r).filter _⟩
    rw [List.mem_filter, decide_eq_true_eq] at h
    exact h.2 rfl
theorem dd_snoc (y : Int) : ∀ ys : List Int, dd (ys ++ [y]) = if y ∈ ys then dd ys else dd ys ++ [y]
  | [] => rfl
  | x :: r => by
    show x :: (dd (r ++ [y])).filter _ = _
    rw [dd_snoc y r]
    by_cases h : y ∈ r
    · rw [if_pos h, if_pos (List.mem_cons_of_mem _ h)]
      rfl
    · rw [if_neg h, List.filter_append]
      by_cases e : y = x
      · subst e
        rw [if_pos List.mem_cons_self]
        simp [dd]
      · rw [if_neg (by simp [h, e])]
        simp [dd, e]
theorem dd_pre (ys : List Int) : ∀ zs : List Int, ∃ W, dd (ys ++ zs) = dd ys ++ W := fun zs => by
  refine snocI (P := fun zs => ∃ W, dd (ys ++ zs) = dd ys ++ W) ⟨[], by simp⟩ (fun zs z ih => ?_) zs
  obtain ⟨W, e⟩ := ih
  rw [← List.append_assoc, dd_snoc, e]
  split
  · exact ⟨W, rfl⟩
  · exact ⟨W ++ [z], by rw [List.append_assoc]⟩
def touchL (B : Nat) (L : List Int) (n : Int) : List Int := n :: (if n ∈ L then L.erase n else if L.length = B then L.dropLast else L)
def outL (B : Nat) (L : List Int) (n : Int) : V := if n ∈ L then .non else if L.length = B then (match L.getLast? with | some z => .int z | none => .non) else .non
def rowL (B : Nat) (L : List Int) (n : Int) : List V := [.int n, .bl (!decide (n ∈ L)), outL B L n]
theorem filter_out {n : Int} {L : List Int} (h : n ∉ L) : L.filter (fun y => decide (y ≠ n)) = L := List.filter_eq_self.mpr fun y hy => decide_eq_true fun e => h (e ▸ hy)
theorem erase_take {n : Int} : ∀ {D : List Int} {B : Nat}, D.Nodup → n ∈ D.take B → (D.take B).erase n = (D.filter fun y => decide (y ≠ n)).take (B - 1)
  | [], B, _, h => by simp at h
  | x :: r, 0, _, h => by simp at h
  | x :: r, b + 1, nd, h => by
    have nx := (List.nodup_cons.mp nd).1
    by_cases e : x = n
    · subst e
      show ((x :: r.take b).erase x) = _
      rw [List.erase_cons_head, List.filter_cons_of_neg (by simp), filter_out nx]
      rfl
    · have h' : n ∈ r.take b := by
        rw [List.take_succ_cons, List.mem_cons] at h
        exact h.resolve_left fun z => e z.symm
      have ih := erase_take (List.nodup_cons.mp nd).2 h'
      rw [List.take_succ_cons, List.erase_cons_tail (by simpa using e), ih, List.filter_cons_of_pos (by simpa using e)]
      cases b with
      | zero => simp at h'
      | succ b => rfl
theorem touch_dd {B : Nat} (hB : 1 ≤ B) (ys : List Int) (n : Int) : touchL B ((dd ys).take B) n = (dd (n :: ys)).take B := by
  obtain ⟨b, rfl⟩ : ∃ b, B = b + 1 := ⟨B - 1, by omega⟩
  show n :: _ = (n :: (dd ys).filter _).take (b + 1)
  rw [List.take_succ_cons]
  congr 1
  by_cases h : n ∈ (dd ys).take (b + 1)
  · rw [if_pos h, erase_take (nd_dd ys) h]
    rfl
  · rw [if_neg h]
    have key : ((dd ys).filter fun y => decide (y ≠ n)).take b = (dd ys).take b := by
      conv => lhs; rw [← List.take_append_drop (b + 1) (dd ys)]
      rw [List.filter_append, filter_out h, List.take_append, List.take_take]
      by_cases hl : (dd ys).length ≤ b
      · have e1 : (dd ys).drop (b + 1) = [] := List.drop_eq_nil_of_le (by omega)
        rw [e1]
        simp
      · have e2 : b - ((dd ys).take (b + 1)).length = 0 := by
          rw [List.length_take]
          omega
        rw [e2, List.take_zero, List.append_nil, Nat.min_eq_left (by omega)]
    rw [key]
    by_cases hl : ((dd ys).take (b + 1)).length = b + 1
    · rw [if_pos hl, List.dropLast_eq_take, hl, List.take_take]
      congr 1
      omega
    · rw [if_neg hl]
      rw [List.length_take] at hl
      rw [List.take_of_length_le (by omega), List.take_of_length_le (by omega)]
/-- what is kept, and the rows, behind some touches -/
def stepK (B : Nat) (s : List Int × List (List V)) (n : Int) : List Int × List (List V) := (touchL B s.1 n, s.2 ++ [rowL B s.1 n])
def runK (B : Nat) (xs : List Int) : List Int × List (List V) := xs.foldl (stepK B) ([], [])
theorem runK_snoc (B : Nat) (xs : List Int) (n : Int) : runK B (xs ++ [n]) = stepK B (runK B xs) n := by
  unfold runK
  rw [List.foldl_append]
  rfl
def lastL (B : Nat) (xs : List Int) : List Int := (dd xs.reverse).take B
theorem runK_last {B : Nat} (hB : 1 ≤ B) (xs : List Int) : (runK B xs).1 = lastL B xs := by
  refine snocI (P := fun xs => (runK B xs).1 = lastL B xs) (by simp [runK, lastL, dd]) (fun xs n ih => ?_) xs
  rw [runK_snoc]
  show touchL B (runK B xs).1 n = _
  rw [ih]
  unfold lastL
  rw [touch_dd hB, List.reverse_append]
  rfl
theorem runK_rows_len (B : Nat) (xs : List Int) : (runK B xs).2.length = xs.length := by
  refine snocI (P := fun xs => (runK B xs).2.length = xs.length) rfl (fun xs n ih => ?_) xs
  rw [runK_snoc]
  show ((runK B xs).2 ++ [_]).length = _
  rw [List.length_append, List.length_append, ih]
  rfl
theorem lastL_len (B : Nat) (xs : List Int) : (lastL B xs).length ≤ B := by
  unfold lastL
  rw [List.length_take]
  exact Nat.min_le_left _ _

/-! ### refusals with one field -/
/-- the field found alone -/
def FoundAt (H : Hp) (d : Addr) (x : V) : Prop := H d = some (.xd [("found", x)])
/-- C of x is raised -/
def Refuses (C : Addr) (H : Hp) (x : V) (E : XK) : Prop := ∀ d H1, H d = none → Same H H1 → FoundAt H1 d x → E (.ref C) (some d) H1

section
variable {P : Program} {w : World} {K : PySem.W.Frag} {mg : Str → Option Value} {base : Heap}
theorem ok_NoLine {f C_NoLine C_RoomError : Addr} {fd : FuncData} (F : Fun K "__init__" "NoLine.__init__" s_NoLine_init f fd) (O_NoLine : OexC K C_NoLine) (G_RoomError : mg "RoomError" = some (.ref C_RoomError)) (R_RoomError : ClX.CRead K C_RoomError (.type "type")) (V_RoomError : PySem.W.findCls K (.ref C_RoomError) (.type "type") "__init__" = some (.val (.builtin "ValueError.__init__"))) (B_NoLine_found : PySem.W.findIn K (.ref C_NoLine) "found" = some none) : FnOk P w K mg base CX0 1 f fd ["self", "found"] (spX C_NoLine ["found"]) := by
  refine F.ok sc_NoLine_init (fun vs H Q E h => ?_) (fun cdv A outer s H vs Q E hr h => ?_)
  · obtain ⟨a, ys, rfl, hl, _⟩ := h
    match ys, hl with
    | [y], _ => rfl
  · obtain ⟨a, ys, rfl, hl, ha, q⟩ := h
    obtain ⟨y, rfl⟩ : ∃ y, ys = [y] := by
      match ys, hl with
      | [y], _ => exact ⟨y, rfl⟩
    refine ⟨_, (pss_cons (ps_expr (pe_roinit (by rfl) G_RoomError R_RoomError V_RoomError (pa_cons (pv 0) (pa_cons pe_str pa_nil)) (K := K)))
      (pss_one (ps_ostK (pv 0) (pv 1) (K := K)))), ?_⟩
    walk_at "rd"
    exact ⟨by decide, _, O_NoLine, ha, _, O_NoLine, B_NoLine_found, .inl ⟨ha, fun dx nd nda => q dx _ nd nda upd_same (by rw [upd_ne nda]; exact upd_same) (fun b h1 h2 => by rw [upd_ne h1, upd_ne h2])⟩⟩
end

section
variable {P : Program} {w : World} {K : PySem.W.Frag} {mg : Str → Option Value} {base : Heap}
theorem ok_NoKeep {f C_NoKeep C_RoomError : Addr} {fd : FuncData} (F : Fun K "__init__" "NoKeep.__init__" s_NoKeep_init f fd) (O_NoKeep : OexC K C_NoKeep) (G_RoomError : mg "RoomError" = some (.ref C_RoomError)) (R_RoomError : ClX.CRead K C_RoomError (.type "type")) (V_RoomError : PySem.W.findCls K (.ref C_RoomError) (.type "type") "__init__" = some (.val (.builtin "ValueError.__init__"))) (B_NoKeep_found : PySem.W.findIn K (.ref C_NoKeep) "found" = some none) : FnOk P w K mg base CX0 1 f fd ["self", "found"] (spX C_NoKeep ["found"]) := by
  refine F.ok sc_NoKeep_init (fun vs H Q E h => ?_) (fun cdv A outer s H vs Q E hr h => ?_)
  · obtain ⟨a, ys, rfl, hl, _⟩ := h
    match ys, hl with
    | [y], _ => rfl
  · obtain ⟨a, ys, rfl, hl, ha, q⟩ := h
    obtain ⟨y, rfl⟩ : ∃ y, ys = [y] := by
      match ys, hl with
      | [y], _ => exact ⟨y, rfl⟩
    refine ⟨_, (pss_cons (ps_expr (pe_roinit (by rfl) G_RoomError R_RoomError V_RoomError (pa_cons (pv 0) (pa_cons pe_str pa_nil)) (K := K)))
      (pss_one (ps_ostK (pv 0) (pv 1) (K := K)))), ?_⟩
    walk_at "rd"
    exact ⟨by decide, _, O_NoKeep, ha, _, O_NoKeep, B_NoKeep_found, .inl ⟨ha, fun dx nd nda => q dx _ nd nda upd_same (by rw [upd_ne nda]; exact upd_same) (fun b h1 h2 => by rw [upd_ne h1, upd_ne h2])⟩⟩
end

section
variable {P : Program} {w : World} {K : PySem.W.Frag} {mg : Str → Option Value} {base : Heap}
theorem ok_NoPlace {f C_NoPlace C_RoomError : Addr} {fd : FuncData} (F : Fun K "__init__" "NoPlace.__init__" s_NoPlace_init f fd) (O_NoPlace : OexC K C_NoPlace) (G_RoomError : mg "RoomError" = some (.ref C_RoomError)) (R_RoomError : ClX.CRead K C_RoomError (.type "type")) (V_RoomError : PySem.W.findCls K (.ref C_RoomError) (.type "type") "__init__" = some (.val (.builtin "ValueError.__init__"))) (B_NoPlace_found : PySem.W.findIn K (.ref C_NoPlace) "found" = some none) : FnOk P w K mg base CX0 1 f fd ["self", "found"] (spX C_NoPlace ["found"]) := by
  refine F.ok sc_NoPlace_init (fun vs H Q E h => ?_) (fun cdv A outer s H vs Q E hr h => ?_)
  · obtain ⟨a, ys, rfl, hl, _⟩ := h
    match ys, hl with
    | [y], _ => rfl
  · obtain ⟨a, ys, rfl, hl, ha, q⟩ := h
    obtain ⟨y, rfl⟩ : ∃ y, ys = [y] := by
      match ys, hl with
      | [y], _ => exact ⟨y, rfl⟩
    refine ⟨_, (pss_cons (ps_expr (pe_roinit (by rfl) G_RoomError R_RoomError V_RoomError (pa_cons (pv 0) (pa_cons pe_str pa_nil)) (K := K)))
      (pss_one (ps_ostK (pv 0) (pv 1) (K := K)))), ?_⟩
    walk_at "rd"
    exact ⟨by decide, _, O_NoPlace, ha, _, O_NoPlace, B_NoPlace_found, .inl ⟨ha, fun dx nd nda => q dx _ nd nda upd_same (by rw [upd_ne nda]; exact upd_same) (fun b h1 h2 => by rw [upd_ne h1, upd_ne h2])⟩⟩
end

/-! ### room.py: places -/
def okP (c s b : Int) : Bool := decide (0 ≤ c) && (if b = 2 then decide (0 ≤ s) && decide (s < 8) && decide (s % 2 = 0) else decide (s = 0) && decide (8 ≤ b) && decide (b ≤ 512) && decide (b % 8 = 0))
def placeOk (xs : List V) : Bool := match xs with
  | [v, v1, v2] => (match v, v1, v2 with
    | .int c, .int s, .int b => okP c s b
    | _, _, _ => false)
  | _ => false
def spIsPlace (K : PySem.W.Frag) : Sp := fun vs H Q _ => ∃ (x : V) (T : String), vs = [x] ∧ Thg K H x T ∧
  ((T ≠ "tuple" ∧ Q (.bl false) H) ∨ ∃ a xs, x = .ref a ∧ SqT K H a xs ∧ (∀ y ∈ xs, ∃ T, Thg K H y T) ∧ Q (.bl (placeOk xs)) H)
section
variable {P : Program} {w : World} {K : PySem.W.Frag} {mg : Str → Option Value} {base : Heap}
theorem ok_isPlace {f : Addr} {fd : FuncData} (F : Fun K "is_place" "is_place" s_is_place f fd) (z_isinstance : mg "isinstance" = none) (z_tuple : mg "tuple" = none) (z_len : mg "len" = none)
    (c_TAG_BITS : ∃ t, mg "TAG_BITS" = some (.int 2 t)) (c_CELL_BITS : ∃ t, mg "CELL_BITS" = some (.int 8 t)) (c_MOST_BITS : ∃ t, mg "MOST_BITS" = some (.int 512 t))
    (D_is_whole : Dn P w K mg base CX0 1 "is_whole" ["thing"] (spIsWhole K)) : FnOk P w K mg base CX0 2 f fd ["thing"] (spIsPlace K) := by
  refine F.ok sc_is_place (fun vs H Q E h => ?_) (fun cdv A outer s H vs Q E hr h => ?_)
  · obtain ⟨x, T, rfl, _⟩ := h
    rfl
  · obtain ⟨x, T, rfl, t, q⟩ := h
    refine ⟨_, (pss_cons (ps_if (PW.pt (pw_or (pt_not (pt_val (pe_callB (call_isiK' (K := K)) (by rfl) z_isinstance (by decide +kernel) (pa_cons (pv 0) (pa_cons (pe_bltn (v := V.ty "tuple") (u := Value.type "tuple") (by rfl) z_tuple (by decide +kernel) rfl) pa_nil))))) (pw_or1 (pt_cmpR op_ne (pe_callB (call_lenR (K := K)) (by rfl) z_len (by decide +kernel) (pa_cons (pv 0) pa_nil)) pe_int (nomark _))))) (pss_one (ps_ret pe_bl)) pss_nil)
      (pss_cons (ps_asg (pv 0) (pg_tup rfl (pgs_cons (pg_name (i := 1) sc_is_place.nd rfl (by first | exact Or.inl rfl | exact Or.inr rfl)) (pgs_cons (pg_name (i := 2) sc_is_place.nd rfl (by first | exact Or.inl rfl | exact Or.inr rfl)) (pgs_cons (pg_name (i := 3) sc_is_place.nd rfl (by first | exact Or.inl rfl | exact Or.inr rfl)) pgs_nil)))))
      (pss_cons (ps_if (PW.pt (pw_or (pt_not (pt_val (pe_cd D_is_whole (hr.mono (by decide)) (by rfl) pass0 (pa_cons (pv 1) pa_nil)))) (pw_or (pt_not (pt_val (pe_cd D_is_whole (hr.mono (by decide)) (by rfl) pass0 (pa_cons (pv 2) pa_nil)))) (pw_or (pt_not (pt_val (pe_cd D_is_whole (hr.mono (by decide)) (by rfl) pass0 (pa_cons (pv 3) pa_nil)))) (pw_or1 (pt_cmpR op_lt (pv 1) pe_int (nomark _))))))) (pss_one (ps_ret pe_bl)) pss_nil)
      (pss_cons (ps_if (pt_cmpR op_eq (pv 3) (pe_gi (by rfl) c_TAG_BITS) (nomark _)) (pss_one (ps_ret (pe_and (pe_chain op_le op_lt pe_int (pv 2) (pe_gi (by rfl) c_CELL_BITS)) (pe_one (pe_cmpR op_eq (pe_op op_modN (pv 2) (pe_gi (by rfl) c_TAG_BITS)) pe_int (nomark _)))))) pss_nil)
      (pss_one (ps_ret (pe_and (pe_cmpR op_eq (pv 2) pe_int (nomark _)) (pe_and (pe_chain op_le op_le (pe_gi (by rfl) c_CELL_BITS) (pv 3) (pe_gi (by rfl) c_MOST_BITS)) (pe_one (pe_cmpR op_eq (pe_op op_modN (pv 3) (pe_gi (by rfl) c_CELL_BITS)) pe_int (nomark _))))))))))), ?_⟩
    walk_at "rd"
    rcases q with ⟨hT, q⟩ | ⟨a, xs, rfl, hS, hk, q⟩
    · refine isiT t (by decide) (iteP ?_ q)
      simp [kindIs, hT]
    · refine isiT (thg_tup hS) (by decide) (iteN (by decide) ⟨a, rfl, xs, .inr hS, ite2 (fun l3 => ?_) (fun l3 => ?_)⟩)
      · have e : placeOk xs = false := by
          match xs with
          | [] => rfl
          | [_] => rfl
          | [_, _] => rfl
          | [_, _, _] => exact absurd rfl l3
          | _ :: _ :: _ :: _ :: _ => rfl
        rw [e] at q
        exact q
      · obtain ⟨v, v1, v2, rfl⟩ : ∃ v v1 v2, xs = [v, v1, v2] := by
          match xs, l3 with
          | [v, v1, v2], _ => exact ⟨v, v1, v2, rfl⟩
          | [], c => exact absurd (fun h => by cases h) c
          | [_], c => exact absurd (fun h => by cases h) c
          | [_, _], c => exact absurd (fun h => by cases h) c
          | _ :: _ :: _ :: _ :: r, c =>
            refine absurd (fun h => ?_) c
            simp only [List.length_cons] at h
            omega
        obtain ⟨T1, t1⟩ := hk v (by simp)
        obtain ⟨T2, t2⟩ := hk v1 (by simp)
        obtain ⟨T3, t3⟩ := hk v2 (by simp)
        refine ⟨a, rfl, _, hS, rfl, _, _, rfl, _, _, rfl, _, _, rfl, rfl, ?_⟩
        refine ⟨v, T1, rfl, t1, _, rfl, ?_⟩
        have no : ∀ {v v1 v2 : V}, (∀ c s b, ¬ (v = .int c ∧ v1 = .int s ∧ v2 = .int b)) → placeOk [v, v1, v2] = false := fun {v v1 v2} h => by
          unfold placeOk
          dsimp only
          split
          · exact absurd ⟨rfl, rfl, rfl⟩ (h _ _ _)
          · rfl
        refine ite2 (fun w1 => ?_) (fun w1 => ⟨v1, T2, rfl, t2, _, rfl, ite2 (fun w2 => ?_) (fun w2 => ⟨v2, T3, rfl, t3, _, rfl, ite2 (fun w3 => ?_) (fun w3 => ?_)⟩)⟩)
        · rw [no (fun c s b h => by rw [h.1] at w1; cases w1)] at q
          exact q
        · rw [no (fun c s b h => by rw [h.2.1] at w2; cases w2)] at q
          exact q
        · rw [no (fun c s b h => by rw [h.2.2] at w3; cases w3)] at q
          exact q
        · clear l3
          obtain ⟨c, rfl⟩ : ∃ c, v = .int c := by cases v <;> first | exact ⟨_, rfl⟩ | exact absurd rfl w1
          obtain ⟨s, rfl⟩ : ∃ c, v1 = .int c := by cases v1 <;> first | exact ⟨_, rfl⟩ | exact absurd rfl w2
          obtain ⟨b, rfl⟩ : ∃ c, v2 = .int c := by cases v2 <;> first | exact ⟨_, rfl⟩ | exact absurd rfl w3
          have key : ∀ B : Bool, okP c s b = B → Q (.bl B) H := fun B e => by
            rw [← e]
            exact q
          walk_at "rd"
          have e2 : s.fmod 2 = s % 2 := Int.fmod_eq_emod_of_nonneg s (by decide)
          have e8 : b.fmod 8 = b % 8 := Int.fmod_eq_emod_of_nonneg b (by decide)
          rw [e2, e8]
          unfold okP at key
          refine ite2 (fun c0 => key _ ?_) (fun c0 => ite2 (fun h2 => ite2 (fun s0 => ite2 (fun s8 => ⟨by decide, key _ ?_⟩) (fun s8 => key _ ?_)) (fun s0 => key _ ?_)) (fun h2 => ite2 (fun s0 => ite2 (fun b8 => ite2 (fun b5 => ⟨by decide, key _ ?_⟩) (fun b5 => key _ ?_)) (fun b8 => key _ ?_)) (fun s0 => key _ ?_)))
          · rw [decide_eq_false (by omega), Bool.false_and]
          all_goals rw [decide_eq_true (show 0 ≤ c by omega), Bool.true_and]
          · rw [if_pos h2, decide_eq_true s0, decide_eq_true s8, Bool.true_and, Bool.true_and]
          · rw [if_pos h2, decide_eq_false s8, Bool.and_false, Bool.false_and]
          · rw [if_pos h2, decide_eq_false s0, Bool.false_and, Bool.false_and]
          · rw [if_neg h2, decide_eq_true s0, decide_eq_true b8, decide_eq_true b5, Bool.true_and, Bool.true_and, Bool.true_and]
          · rw [if_neg h2, decide_eq_false b5, Bool.and_false, Bool.false_and]
          · rw [if_neg h2, decide_eq_false b8, Bool.and_false, Bool.false_and, Bool.false_and]
          · rw [if_neg h2, decide_eq_false s0, Bool.false_and, Bool.false_and, Bool.false_and]
end
/-! places that are places -/
def lastC (c s b : Int) : Int := c + (s + b - 1) / 8
theorem okP_last {c s b : Int} (h : okP c s b = true) : 0 ≤ c ∧ 0 ≤ s ∧ s < 8 ∧ 2 ≤ b ∧ b ≤ 512 ∧ c ≤ lastC c s b ∧ lastC c s b ≤ c + 64 := by
  unfold okP at h
  unfold lastC
  rw [Bool.and_eq_true] at h
  obtain ⟨h0, h⟩ := h
  have h0 := of_decide_eq_true h0
  split at h
  · simp only [Bool.and_eq_true, decide_eq_true_eq] at h
    omega
  · simp only [Bool.and_eq_true, decide_eq_true_eq] at h
    omega
def cellsR (c s b : Int) : List Int := (List.range (lastC c s b - c + 1).toNat).map fun (k : Nat) => c + (k : Int)
def spLastCell (K : PySem.W.Frag) : Sp := fun vs H Q _ => ∃ (a : Addr) (c s b : Int), vs = [.ref a] ∧ SqT K H a [.int c, .int s, .int b] ∧ Q (.int (lastC c s b)) H
def spNeedOk (K : PySem.W.Frag) : Sp := fun vs H Q _ => ∃ (a : Addr) (c s b : Int), vs = [.ref a] ∧ SqT K H a [.int c, .int s, .int b] ∧ okP c s b = true ∧ Q .non H
def spCellsIn (K : PySem.W.Frag) : Sp := fun vs H Q _ => ∃ (a : Addr) (c s b : Int), vs = [.ref a] ∧ SqT K H a [.int c, .int s, .int b] ∧ okP c s b = true ∧ ∀ p H1, H p = none → Same H H1 → H1 p = some (.lst ((cellsR c s b).map V.int)) → Q (.ref p) H1
section
variable {P : Program} {w : World} {K : PySem.W.Frag} {mg : Str → Option Value} {base : Heap}
theorem ok_lastCell {f : Addr} {fd : FuncData} (F : Fun K "last_cell" "last_cell" s_last_cell f fd) (c_CELL_BITS : ∃ t, mg "CELL_BITS" = some (.int 8 t)) : FnOk P w K mg base CX0 1 f fd ["place"] (spLastCell K) := by
  refine F.ok sc_last_cell (fun vs H Q E h => ?_) (fun cdv A outer s H vs Q E hr h => ?_)
  · obtain ⟨a, c, s, b, rfl, _⟩ := h
    rfl
  · obtain ⟨a, c, s, b, rfl, hS, q⟩ := h
    refine ⟨_, (pss_one (ps_ret (pe_op op_add (pe_ix (ix_tupK (K := K)) (pv 0) pe_int (fun _ _ => rfl)) (pe_op op_fdivW (pe_op op_sub (pe_op op_add (pe_ix (ix_tupK (K := K)) (pv 0) pe_int (fun _ _ => rfl)) (pe_ix (ix_tupK (K := K)) (pv 0) pe_int (fun _ _ => rfl))) pe_int) (pe_gi (by rfl) c_CELL_BITS))))), ?_⟩
    walk_at "rd"
    exact ⟨_, hS, _, rfl, _, hS, _, rfl, _, hS, _, rfl, _, rfl, _, rfl, ⟨by decide, by decide⟩, _, rfl, q⟩
end

/-! ### room.py: what refuses -/
def PlaceTh (K : PySem.W.Frag) (H : Hp) (x : V) (ok : Bool) : Prop := (∃ T, Th K H x T ∧ T ≠ "tuple" ∧ ok = false) ∨ ∃ a xs, x = .ref a ∧ SqT K H a xs ∧ (∀ y ∈ xs, ∃ T, Th K H y T) ∧ ok = placeOk xs
theorem PlaceTh.same {K : PySem.W.Frag} {H H' : Hp} {x : V} {ok : Bool} (h : PlaceTh K H x ok) (s : Same H H') : PlaceTh K H' x ok := by
  rcases h with ⟨T, t, n, e⟩ | ⟨a, xs, e, h, hy, eo⟩
  · exact .inl ⟨T, t.same s, n, e⟩
  · exact .inr ⟨a, xs, e, Same.seqT s h, fun y hm => let ⟨T, t⟩ := hy y hm; ⟨T, t.same s⟩, eo⟩
theorem placeTh_ints {K : PySem.W.Frag} {H : Hp} {a : Addr} {c s b : Int} (h : SqT K H a [.int c, .int s, .int b]) : PlaceTh K H (.ref a) (okP c s b) := by
  refine .inr ⟨a, _, rfl, h, fun y hy => ⟨"int", ?_⟩, rfl⟩
  simp only [List.mem_cons, List.not_mem_nil, or_false] at hy
  rcases hy with rfl | rfl | rfl <;> exact .int _
theorem placeOk_ints {xs : List V} (h : placeOk xs = true) : ∃ c s b : Int, xs = [.int c, .int s, .int b] ∧ okP c s b = true := by
  unfold placeOk at h
  split at h
  · split at h
    · exact ⟨_, _, _, rfl, h⟩
    · cases h
  · cases h
def spNeed (K : PySem.W.Frag) (C : Addr) : Sp := fun vs H Q E => ∃ (x : V) (ok : Bool), vs = [x] ∧ PlaceTh K H x ok ∧ (ok = true → Q .non H) ∧ (ok = false → Refuses C H x E)
def spCellsInX (K : PySem.W.Frag) (C : Addr) : Sp := fun vs H Q E => ∃ (x : V), vs = [x] ∧
  ((∃ (a : Addr) (c s b : Int), x = .ref a ∧ SqT K H a [.int c, .int s, .int b] ∧ okP c s b = true ∧ ∀ p H1, H p = none → Same H H1 → H1 p = some (.lst ((cellsR c s b).map V.int)) → Q (.ref p) H1) ∨ (PlaceTh K H x false ∧ Refuses C H x E))
section
variable {P : Program} {w : World} {K : PySem.W.Frag} {mg : Str → Option Value} {base : Heap}
theorem ok_need {f C_NoPlace : Addr} {fd : FuncData} (F : Fun K "need_place" "need_place" s_need_place f fd) (D_is_place : Dn P w K mg base CX0 2 "is_place" ["thing"] (spIsPlace K)) (X_NoPlace : Xn P w K mg base 1 C_NoPlace "NoPlace" ["self", "found"] (spX C_NoPlace ["found"])) : FnOk P w K mg base (L2.CX P w) 3 f fd ["thing"] (spNeed K C_NoPlace) := by
  refine F.okX sc_need_place (fun vs H Q E h => ?_) (fun cdv A outer s H vs Q E hr h => ?_)
  · obtain ⟨x, ok, rfl, _⟩ := h
    rfl
  · obtain ⟨x, ok, rfl, hp, q1, q2⟩ := h
    refine ⟨_, (pss_one (ps_if (pt_not (pt_val (pe_cd D_is_place (hr.mono (by decide)) (by rfl) pass0 (pa_cons (pv 0) pa_nil)))) (pss_one (ps_rz X_NoPlace rfl (takes_of rfl rfl rfl rfl) (hr.mono (by decide)) (by rfl) pass0 (pa_cons (pv 0) pa_nil))) pss_nil)), ?_⟩
    walk_at "rd"
    have fin : ∀ B : Bool, ok = B → ∃ c, V.bl B = V.bl c ∧ if c = false then ∀ (d : Addr) (H2 : Hp), H d = none → Same H H2 → H2 d = some (HO.xd ([("found" : Str)].zip [x]).reverse) → E (Value.ref C_NoPlace) (some d) H2 else Q V.non H := fun B e => by
      subst e
      refine ⟨ok, rfl, ite2 (fun c => ?_) (fun c => ?_)⟩
      · exact fun d H2 nd s2 h2 => q2 c d H2 nd s2 h2
      · exact q1 (by cases ok <;> first | rfl | exact absurd rfl c)
    rcases hp with ⟨T, t, nT, e⟩ | ⟨a, xs, rfl, h, hy, e⟩
    · exact ⟨x, T, rfl, t.thg, .inl ⟨nT, fin _ e⟩⟩
    · exact ⟨_, "tuple", rfl, thg_tup h, .inr ⟨a, xs, rfl, h, fun y hm => let ⟨T, t⟩ := hy y hm; ⟨T, t.thg⟩, fin _ e⟩⟩
theorem ok_cellsInX {f C_NoPlace : Addr} {fd : FuncData} (F : Fun K "cells_in" "cells_in" s_cells_in f fd) (z_range : mg "range" = none) (D_need_place : Dn P w K mg base (L2.CX P w) 3 "need_place" ["thing"] (spNeed K C_NoPlace)) (D_last_cell : Dn P w K mg base CX0 1 "last_cell" ["place"] (spLastCell K)) : FnOk P w K mg base (L2.CX P w) 4 f fd ["place"] (spCellsInX K C_NoPlace) := by
  refine F.okX sc_cells_in (fun vs H Q E h => ?_) (fun cdv A outer s H vs Q E hr h => ?_)
  · obtain ⟨x, rfl, _⟩ := h
    rfl
  · obtain ⟨x, rfl, hp⟩ := h
    refine ⟨_, (pss_cons (ps_expr (pe_cdS D_need_place (hr.mono (by decide)) (by rfl) (fun σ => passAt (takes_of rfl rfl rfl rfl) σ) (pa_cons (pv 0) pa_nil)))
      (pss_one (ps_ret (pe_lc (own := [("k", 1)]) (g := gName 1) (tt := tYes) rfl sc_cells_in.nd (pi_rangeL1 (by rfl) z_range (pa_cons (pe_op op_add (pe_op op_sub (pe_cd D_last_cell (hr.mono (by decide)) (by rfl) pass0 (pa_cons (pv 0) pa_nil)) (pe_ix (ix_tupK (K := K)) (pv 0) pe_int (fun _ _ => rfl))) pe_int) pa_nil)) (blkOk_by (own := [("k", 1)]) (N := ["place", "k"]) (sc := defScope s_cells_in) (by decide +kernel)) (fun _ _ _ _ _ => pg_name (i := 1) sc_cells_in.nd rfl (Or.inl rfl)) (fun _ _ _ _ _ => pts_nil) (fun _ _ _ _ _ => (pe_op op_add (pe_ix (ix_tupK (K := K)) (pv 0) pe_int (fun _ _ => rfl)) (pv 1))))))), ?_⟩
    walk_at "rd"
    rcases hp with ⟨a, c, s, b, rfl, hS, ho, q1⟩ | ⟨hp, q2⟩
    case inr => exact ⟨x, false, rfl, hp, fun h => absurd h (by decide), fun _ => q2⟩
    refine ⟨_, true, rfl, by rw [← ho]; exact placeTh_ints hS, fun _ => ?_, fun h => absurd h (by decide)⟩
    have hb := okP_last ho
    refine ⟨a, c, s, b, rfl, hS, ?_⟩
    walk_at "rd"
    refine ⟨_, hS, _, rfl, _, rfl, Cmp.pureR (fun k => .int (c + (k : Int))) (by omega) (fun _ => rfl) ?_ ?_⟩
    · intro i H2 R hi s2 hR
      walk_at "rd"
      refine ⟨_, Same.seqT s2 hS, _, rfl, _, rfl, ?_⟩
      rw [Int.zero_add]
      exact hR H2 (Same.refl H2)
    · intro l H2 nl s2 h2
      refine q1 l H2 nl s2 ?_
      rw [h2]
      unfold cellsR
      rw [List.map_map]
      rfl
end

def lineOk : V → Bool
  | .int n => decide (0 ≤ n)
  | _ => false
theorem lineOk_int {x : V} (h : lineOk x = true) : ∃ n : Int, x = .int n ∧ 0 ≤ n := by
  cases x with
  | int n => exact ⟨n, rfl, of_decide_eq_true h⟩
  | _ => cases h
def spNeedLine (K : PySem.W.Frag) (CL : Addr) : Sp := fun vs H Q E => ∃ (x : V) (T : String), vs = [x] ∧ Th K H x T ∧ (lineOk x = true → Q .non H) ∧ (lineOk x = false → Refuses CL H x E)
section
variable {P : Program} {w : World} {K : PySem.W.Frag} {mg : Str → Option Value} {base : Heap}
theorem ok_needLine {f C_NoLine : Addr} {fd : FuncData} (F : Fun K "need_line" "need_line" s_need_line f fd) (D_is_whole : Dn P w K mg base CX0 1 "is_whole" ["thing"] (spIsWhole K)) (X_NoLine : Xn P w K mg base 1 C_NoLine "NoLine" ["self", "found"] (spX C_NoLine ["found"])) : FnOk P w K mg base (L2.CX P w) 3 f fd ["line"] (spNeedLine K C_NoLine) := by
  refine F.okX sc_need_line (fun vs H Q E h => ?_) (fun cdv A outer s H vs Q E hr h => ?_)
  · obtain ⟨x, T, rfl, _⟩ := h
    rfl
  · obtain ⟨x, T, rfl, t, q1, q2⟩ := h
    refine ⟨_, (pss_one (ps_if (PW.pt (pw_or (pt_not (pt_val (pe_cd D_is_whole (hr.mono (by decide)) (by rfl) pass0 (pa_cons (pv 0) pa_nil)))) (pw_or1 (pt_cmpR op_lt (pv 0) pe_int (nomark _))))) (pss_one (ps_rz X_NoLine rfl (takes_of rfl rfl rfl rfl) (hr.mono (by decide)) (by rfl) pass0 (pa_cons (pv 0) pa_nil))) pss_nil)), ?_⟩
    walk_at "rd"
    refine ⟨x, T, rfl, t.thg, _, rfl, ite2 (fun c => ?_) (fun c => ?_)⟩
    · exact q2 (by cases x <;> first | rfl | cases c)
    · obtain ⟨n, rfl⟩ : ∃ n, x = .int n := by
        cases x with
        | int n => exact ⟨n, rfl⟩
        | _ => exact absurd rfl c
      refine ⟨n, rfl, ite2 (fun g => q2 (decide_eq_false (show ¬ 0 ≤ n by omega))) (fun g => q1 (decide_eq_true (show 0 ≤ n by omega)))⟩
end

/-! ### lists of lines, refused -/
def LinesBad (K : PySem.W.Frag) (H : Hp) (a : Addr) (x : V) : Prop := ∃ (pre : List Int) (post xs : List V) (T : String), SqL K H a xs ∧ xs = pre.map V.int ++ x :: post ∧ (∀ n ∈ pre, (0 : Int) ≤ n) ∧ Th K H x T ∧ lineOk x = false
theorem Refuses.same {C : Addr} {H H1 : Hp} {x : V} {E : XK} (r : Refuses C H x E) (s : Same H H1) : Refuses C H1 x E := fun d H2 nd s2 h => r d H2 (s.free nd) (s.trans s2) h
def spNo : Sp := fun _ _ _ _ => False
def spNeedLines (K : PySem.W.Frag) (CL : Addr) : Sp := fun vs H Q E => ∃ (a : Addr), vs = [.ref a] ∧ ((∃ ns : List Int, SqL K H a (ns.map V.int) ∧ (∀ n ∈ ns, 0 ≤ n) ∧ Q .non H) ∨ ∃ x, LinesBad K H a x ∧ Refuses CL H x E)
def spDist (K : PySem.W.Frag) (CL : Addr) : Sp := fun vs H Q E => ∃ (a : Addr), vs = [.ref a] ∧ ((∃ ns : List Int, SqL K H a (ns.map V.int) ∧ (∀ n ∈ ns, 0 ≤ n) ∧ ns.length ≤ 1000 ∧ ∀ p H1 xs, H p = none → Same H H1 → H1 p = some (.lst xs) → Q (.ref p) H1) ∨ ∃ x, LinesBad K H a x ∧ Refuses CL H x E)
/-! ### the mathematics -/
/-- how far back a line was asked for: told by what is ahead of it -/
def farP (P : List Int) (n : Int) : V := if n ∈ P then .int ((dd P.reverse).idxOf n + 1 : Nat) else .non
def distN (ns : List Int) (i : Nat) : List V := (List.range i).map fun k => farP (ns.take k) (ns.getD k 0)
def distL (ns : List Int) : List V := distN ns ns.length
theorem distN_succ {ns : List Int} {i : Nat} {z : Int} (h : ns[i]? = some z) : distN ns (i + 1) = distN ns i ++ [farP (ns.take i) z] := by
  unfold distN
  rw [List.range_succ, List.map_append, List.map_singleton, List.getD_eq_getElem?_getD, h]
  rfl
theorem distN_len (ns : List Int) (i : Nat) : (distN ns i).length = i := by
  unfold distN
  rw [List.length_map, List.length_range]
theorem distL_len (ns : List Int) : (distL ns).length = ns.length := distN_len _ _
theorem distL_at {ns : List Int} {i : Nat} (h : i < ns.length) : (distL ns)[i]? = some (farP (ns.take i) ns[i]) := by
  unfold distL distN
  rw [List.getElem?_map, List.getElem?_range h]
  show some (farP (ns.take i) (ns.getD i 0)) = _
  rw [List.getD_eq_getElem?_getD, List.getElem?_eq_getElem h]
  rfl
theorem dd_erase {n : Int} {ys : List Int} : n :: (dd ys).erase n = dd (n :: ys) := by
  show _ = n :: (dd ys).filter _
  congr 1
  have h := List.Nodup.erase_eq_filter (nd_dd ys) n
  rw [h]
  congr 1
  funext y
  by_cases e : y = n <;> simp [e]
theorem far_back {A B : List Int} {n : Int} (h : n ∉ B) : (dd (A ++ n :: B).reverse).idxOf n + 1 = (dd (n :: B).reverse).length := by
  have hb : n ∉ B.reverse := by simpa using h
  have e1 : (A ++ n :: B).reverse = (B.reverse ++ [n]) ++ A.reverse := by simp
  have e2 : (n :: B).reverse = B.reverse ++ [n] := by simp
  obtain ⟨W, e3⟩ := dd_pre (B.reverse ++ [n]) A.reverse
  have e4 : dd (B.reverse ++ [n]) = dd B.reverse ++ [n] := by rw [dd_snoc, if_neg hb]
  rw [e1, e2, e3, e4, List.length_append, List.length_singleton, List.append_assoc, List.idxOf_append, if_neg (fun h => hb (mem_dd.mp h))]
  simp
theorem dd_len : ∀ ys : List Int, (dd ys).length ≤ ys.length
  | [] => Nat.le_refl _
  | y :: r => by
    show (y :: (dd r).filter _).length ≤ _
    rw [List.length_cons, List.length_cons]
    have h1 := List.length_filter_le (fun z => decide (z ≠ y)) (dd r)
    have h2 := dd_len r
    omega
section
variable {P : Program} {w : World} {K : PySem.W.Frag} {mg : Str → Option Value} {base : Heap}
theorem ok_needLines {f C_NoLine : Addr} {fd : FuncData} (F : Fun K "need_lines" "need_lines" s_need_lines f fd) (D_need_line : Dn P w K mg base (L2.CX P w) 3 "need_line" ["line"] (spNeedLine K C_NoLine)) : FnOk P w K mg base (L2.CX P w) 4 f fd ["lines"] (spNeedLines K C_NoLine) := by
  refine F.okX sc_need_lines (fun vs H Q E h => ?_) (fun cdv A outer s H vs Q E hr h => ?_)
  · obtain ⟨a, rfl, _⟩ := h
    rfl
  · obtain ⟨a, rfl, h⟩ := h
    refine ⟨_, (pss_one (ps_for (passes_of rfl) rfl (pi_listK (pv 0) (K := K)) (pg_name (i := 1) sc_need_lines.nd rfl (by first | exact Or.inl rfl | exact Or.inr rfl)) (pss_one (ps_expr (pe_cdS D_need_line (hr.mono (by decide)) (by rfl) (fun σ => passAt (takes_of rfl rfl rfl rfl) σ) (pa_cons (pv 1) pa_nil)))))), ?_⟩
    walk_at "rd"
    rcases h with ⟨ns, hS, h0, q⟩ | ⟨x, ⟨pre, post, xs, T, hS, rfl, h0, t, hx⟩, q⟩
    · refine ⟨⟨_, hS⟩, Loop.list (xs := ns.map V.int) (fun i σ H1 => ∃ y, H1 = H ∧ σ = [some (.ref a), y]) ⟨none, rfl, rfl⟩ ?_ ?_ ?_⟩
      · rintro i σ H1 _ ⟨y, rfl, rfl⟩
        exact hS
      · rintro i x σ H1 hx ⟨y, rfl, rfl⟩
        obtain ⟨z, hz, rfl⟩ := int_at hx
        walk_at "rd"
        have z0 := h0 z (List.mem_of_getElem? hz)
        exact ⟨_, _, rfl, .int z, fun _ => rfl, fun h => absurd ((decide_eq_true z0).symm.trans h) (by decide)⟩
      · rintro σ H1 ⟨y, rfl, rfl⟩
        exact q
    · refine ⟨⟨_, hS⟩, Loop.list (xs := pre.map V.int ++ x :: post) (fun i σ H1 => ∃ y, H1 = H ∧ σ = [some (.ref a), y] ∧ i ≤ pre.length) ⟨none, rfl, rfl, Nat.zero_le _⟩ ?_ ?_ ?_⟩
      · rintro i σ H1 _ ⟨y, rfl, rfl, _⟩
        exact hS
      · rintro i x' σ H1 hx' ⟨y, rfl, rfl, hi⟩
        walk_at "rd"
        by_cases e : i < pre.length
        · rw [List.getElem?_append_left (by rw [List.length_map]; exact e)] at hx'
          obtain ⟨z, hz, rfl⟩ := int_at hx'
          have z0 := h0 z (List.mem_of_getElem? hz)
          exact ⟨_, _, rfl, .int z, fun _ => ⟨rfl, e⟩, fun h => absurd ((decide_eq_true z0).symm.trans h) (by decide)⟩
        · have ei : i = pre.length := by omega
          subst ei
          rw [List.getElem?_append_right (by rw [List.length_map]; exact Nat.le_refl _), List.length_map, Nat.sub_self, List.getElem?_cons_zero] at hx'
          cases hx'
          exact ⟨_, T, rfl, t, fun h => absurd (hx.symm.trans h) (by decide), fun _ => q⟩
      · rintro σ H1 ⟨y, rfl, rfl, hi⟩
        rw [List.length_append, List.length_map, List.length_cons] at hi
        omega
theorem ok_distances {f C_NoLine : Addr} {fd : FuncData} (F : Fun K "distances" "distances" s_distances f fd) (D_need_lines : Dn P w K mg base (L2.CX P w) 4 "need_lines" ["lines"] (spNeedLines K C_NoLine)) : FnOk P w K mg base (L2.CX P w) 5 f fd ["lines"] (spDist K C_NoLine) := by
  refine F.okX sc_distances (fun vs H Q E h => ?_) (fun cdv A outer s H vs Q E hr h => ?_)
  · obtain ⟨a, rfl, _⟩ := h
    rfl
  · obtain ⟨a, rfl, h⟩ := h
    refine ⟨_, (pss_cons (ps_expr (pe_cdS D_need_lines (hr.mono (by decide)) (by rfl) (fun σ => passAt (takes_of rfl rfl rfl rfl) σ) (pa_cons (pv 0) pa_nil)))
      (pss_cons (ps_set (i := 1) sc_distances.nd rfl (by first | exact Or.inl rfl | exact Or.inr rfl) (pe_lst pa_nil))
      (pss_cons (ps_set (i := 2) sc_distances.nd rfl (by first | exact Or.inl rfl | exact Or.inr rfl) (pe_lst pa_nil))
      (pss_cons (ps_for (passes_of rfl) rfl (pi_listK (pv 0) (K := K)) (pg_name (i := 3) sc_distances.nd rfl (by first | exact Or.inl rfl | exact Or.inr rfl)) (pss_cons (ps_if (pt_cmpR (op_in_seqK (K := K)) (pv 3) (pv 1) (by rfl)) (pss_cons (ps_expr (pe_bmK (K := K) PySem.F.plainAttrs_list PySem.F.slot_list_append PySem.F.type_list_append mt_append (pv 2) (pa_cons (pe_op op_add (pe_bmK (K := K) PySem.F.plainAttrs_list PySem.F.slot_list_index PySem.F.type_list_index (mt_indexK (K := K)) (pv 1) (pa_cons (pv 3) pa_nil)) pe_int) pa_nil)))
      (pss_one (ps_expr (pe_bmK (K := K) PySem.F.plainAttrs_list PySem.F.slot_list_remove PySem.F.type_list_remove mt_remove (pv 1) (pa_cons (pv 3) pa_nil))))) (pss_one (ps_expr (pe_bmK (K := K) PySem.F.plainAttrs_list PySem.F.slot_list_append PySem.F.type_list_append mt_append (pv 2) (pa_cons pe_non pa_nil)))))
      (pss_one (ps_expr (pe_bmK (K := K) PySem.F.plainAttrs_list PySem.F.slot_list_insert PySem.F.type_list_insert mt_insertR (pv 1) (pa_cons pe_int (pa_cons (pv 3) pa_nil)))))))
      (pss_one (ps_ret (pv 2))))))), ?_⟩
    walk_at "rd"
    rcases h with ⟨ns, hS, h0, hl, q⟩ | hb
    case inr => exact ⟨a, rfl, .inr hb⟩
    refine ⟨a, rfl, .inl ⟨ns, hS, h0, ?_⟩⟩
    refine ⟨by decide, New.intro fun d H1 nd s1 h1 => ⟨by decide, New.intro fun p H2 np s2 h2 => ⟨⟨_, (s1.trans s2).seq hS⟩, ?_⟩⟩⟩
    have ndp : d ≠ p := fun e => by
      subst e
      rw [h1] at np
      cases np
    refine Loop.list (xs := ns.map V.int) (fun i σ H3 => ∃ (x : Option V), σ = [some (.ref a), some (.ref d), some (.ref p), x] ∧ Same H H3 ∧ H3 d = some (.lst ((dd (ns.take i).reverse).map V.int)) ∧ H3 p = some (.lst (distN ns i)))
      ⟨none, rfl, s1.trans s2, s2 _ _ h1, h2⟩ ?_ ?_ ?_
    · rintro i σ H3 _ ⟨x, rfl, s3, _⟩
      exact s3.seq hS
    · rintro i x σ H3 hx ⟨y, rfl, s3, h3, h4⟩
      obtain ⟨z, hz, rfl⟩ := int_at hx
      have hi : i < ns.length := (List.getElem?_eq_some_iff.mp hz).1
      walk_at "rd"
      have hp : ∀ H4, Off p H3 H4 → Same H H4 := fun H4 o => Same.off s3 (s1.free np) o
      have dl : (dd (ns.take i).reverse).length ≤ 1000 := by
        have h := dd_len (ns.take i).reverse
        rw [List.length_reverse, List.length_take] at h
        omega
      have er : dd (ns.take (i + 1)).reverse = z :: (dd (ns.take i).reverse).erase z := by
        rw [dd_erase, take_snoc hz, List.reverse_append]
        rfl
      have mem : z ∈ dd (ns.take i).reverse ↔ z ∈ ns.take i := by rw [mem_dd, List.mem_reverse]
      refine ⟨_, .inl (seq_of h3), rfl, flat_ints _, ?_⟩
      rw [inV_int, distN_succ hz, er]
      by_cases hin : z ∈ dd (ns.take i).reverse
      · rw [decide_eq_true hin]
        refine iteP rfl ⟨tyv_list (seq_of h4), tyv_list (seq_of h3), _, seq_of h3, rfl, flat_ints _, (dd (ns.take i).reverse).idxOf z, .int z, at_int (idx_at hin), by rw [eqV_int, decide_eq_true rfl], ?_, _, h4, sz100l (by rw [distN_len]; omega), Upd.intro fun H4 o4 h5 => ?_⟩
        · intro m z' hm hz'
          obtain ⟨u, hu, rfl⟩ := int_at hz'
          rw [eqV_int]
          refine decide_eq_false fun e => idx_ne m hm ?_
          rw [hu, e]
        have h6 := o4 _ _ ndp h3
        refine ⟨tyv_list (seq_of h6), _, h6, _, idx_at hin, idx_ne, Upd.intro fun H5 o5 h7 => ?_⟩
        rw [← List.erase_eq_eraseIdx_of_idxOf rfl] at h7
        have ne := List.length_erase_le (a := z) (l := dd (ns.take i).reverse)
        refine ⟨tyv_list (seq_of h7), _, h7, sz100l (by rw [List.length_map]; omega), by decide, by decide, Upd.intro fun H6 o6 h8 => ⟨Same.off (hp H4 o4) nd (o5.trans o6), h8, ?_⟩⟩
        rw [o6 _ _ (Ne.symm ndp) (o5 _ _ (Ne.symm ndp) h5)]
        unfold farP
        rw [if_pos (mem.mp hin)]
        rfl
      · rw [decide_eq_false hin]
        refine iteN (by decide) ⟨tyv_list (seq_of h4), _, h4, sz100l (by rw [distN_len]; omega), Upd.intro fun H4 o4 h5 => ?_⟩
        have h6 := o4 _ _ ndp h3
        refine ⟨tyv_list (seq_of h6), _, h6, sz100l (by rw [List.length_map]; omega), by decide, by decide, Upd.intro fun H6 o6 h8 => ⟨Same.off (hp H4 o4) nd o6, ?_, ?_⟩⟩
        · rw [h8, List.erase_of_not_mem hin]
          rfl
        · rw [o6 _ _ (Ne.symm ndp) h5]
          unfold farP
          rw [if_neg fun h => hin (mem.mpr h)]
    · rintro σ H3 ⟨y, rfl, s3, h3, h4⟩
      walk_at "rd"
      exact q p H3 _ (s1.free np) s3 h4
end

/-! ### what refuses -/
def linesOf (w c s b : Int) : List Int := (List.range (lastC c s b / w - c / w + 1).toNat).map fun (k : Nat) => c / w + (k : Int)
def okD (d : List V) : Prop := ∃ c s b, d = [.int c, .int s, .int b] ∧ okP c s b = true
theorem linesOf_len {w c s b : Int} (h : okP c s b = true) (h1 : 1 ≤ w) : (linesOf w c s b).length ≤ 100 := by
  have hb := okP_last h
  unfold linesOf
  rw [List.length_map, List.length_range]
  have e : lastC c s b / w ≤ c / w + 64 := by
    have e1 : lastC c s b ≤ c + 64 * w := by omega
    have e2 := Int.ediv_le_ediv (c := w) (by omega) e1
    rw [Int.add_mul_ediv_right _ _ (by omega)] at e2
    exact e2
  omega
def PlacesBad (K : PySem.W.Frag) (H : Hp) (a : Addr) (x : V) : Prop := ∃ (pre post xs : List V) (ds : List (List V)), SqL K H a xs ∧ xs = pre ++ x :: post ∧ Tups K H pre ds ∧ (∀ d ∈ ds, okD d) ∧ PlaceTh K H x false ∧ pre.length ≤ 100
def LinesGood (K : PySem.W.Frag) (H : Hp) (a : Addr) : Prop := ∃ ns : List Int, SqL K H a (ns.map V.int) ∧ (∀ n ∈ ns, 0 ≤ n) ∧ ns.length ≤ 1000
def MBad (K : PySem.W.Frag) (H : Hp) (m : V) (hi : Int) : Prop := ∃ T, Th K H m T ∧ isIn m 1 hi = false
theorem MBad.same {K : PySem.W.Frag} {H H1 : Hp} {m : V} {hi : Int} (h : MBad K H m hi) (s : Same H H1) : MBad K H1 m hi := let ⟨T, t, e⟩ := h; ⟨T, t.same s, e⟩
def spBoundBad (K : PySem.W.Frag) (CK : Addr) : Sp := fun vs H Q E => ∃ (m : V), vs = [m] ∧ MBad K H m 32 ∧ Refuses CK H m E
def spKInitBad (K : PySem.W.Frag) (C CK : Addr) : Sp := fun vs H Q E => ∃ (p : Addr) (m : V), vs = [.ref p, m] ∧ MBad K H m 32 ∧ Refuses CK H m E
/-- refused by the lines, or by the bound -/
def spBad2 (K : PySem.W.Frag) (CL CK : Addr) : Sp := fun vs H Q E => ∃ (a : Addr) (m : V), vs = [.ref a, m] ∧ ((∃ x, LinesBad K H a x ∧ Refuses CL H x E) ∨ (LinesGood K H a ∧ MBad K H m 32 ∧ Refuses CK H m E))
def spBad3 (K : PySem.W.Frag) (CL CK : Addr) : Sp := fun vs H Q E => ∃ (a : Addr) (m y : V), vs = [.ref a, m, y] ∧ ((∃ x, LinesBad K H a x ∧ Refuses CL H x E) ∨ (LinesGood K H a ∧ MBad K H m 32 ∧ Refuses CK H m E))
def spLinesBad (K : PySem.W.Frag) (CL CP : Addr) : Sp := fun vs H Q E => ∃ (a : Addr) (m : V), vs = [.ref a, m] ∧ ((MBad K H m 64 ∧ Refuses CL H m E ∧ ∃ xs, SqL K H a xs) ∨ ∃ (w : Int) (x : V), m = .int w ∧ 1 ≤ w ∧ w ≤ 64 ∧ PlacesBad K H a x ∧ Refuses CP H x E)
/-- the seven that are asked: the class and the thing with which each refuses -/
inductive Ask (K : PySem.W.Frag) (H : Hp) (CL CK CP : Addr) : Int → Addr → V → Addr → V → Prop
  | line {k : Int} {a : Addr} {m x : V} (hk : k = 0 ∨ k = 1 ∨ k = 2 ∨ k = 3 ∨ k = 5) (h : LinesBad K H a x) : Ask K H CL CK CP k a m CL x
  | keep {k : Int} {a : Addr} {m : V} (hk : k = 0 ∨ k = 1 ∨ k = 2 ∨ k = 3) (h : LinesGood K H a) (b : MBad K H m 32) : Ask K H CL CK CP k a m CK m
  | kept {a : Addr} {m : V} (b : MBad K H m 32) : Ask K H CL CK CP 6 a m CK m
  | wide {a : Addr} {m : V} (b : MBad K H m 64) (h : ∃ xs, SqL K H a xs) : Ask K H CL CK CP 4 a m CL m
  | place {a : Addr} {w : Int} {x : V} (h1 : 1 ≤ w) (h2 : w ≤ 64) (h : PlacesBad K H a x) : Ask K H CL CK CP 4 a (.int w) CP x
def spAsked (K : PySem.W.Frag) (CL CK CP : Addr) : Sp := fun vs H Q E => ∃ (k : Int) (a : Addr) (m : V) (C : Addr) (x : V), vs = [.int k, .ref a, m] ∧ Ask K H CL CK CP k a m C x ∧ Refuses C H x E
def spRefused (K : PySem.W.Frag) (CL CK CP : Addr) : Sp := fun vs H Q _ => ∃ (k : Int) (a : Addr) (m : V) (C : Addr) (x : V) (wd : Str) (dt : PyData), vs = [.int k, .ref a, m, .str wd, x] ∧ Ask K H CL CK CP k a m C x ∧ ((C = CL ∧ wd = "line") ∨ (C = CK ∧ wd = "keep") ∨ (C = CP ∧ wd = "place")) ∧
  (∀ H1, Same H H1 → Shw K H1 x dt) ∧ dt.showable = true ∧ dt.depth ≤ 60 ∧ dt.shown.length ≤ sizeLine ∧ ∀ H1, Same H H1 → Q (.bl true) H1
/-- a thing of which repr is told -/
def Tg (K : PySem.W.Frag) (H : Hp) (x : V) : Prop := (∃ T, Th K H x T) ∧ ∃ dt : PyData, (∀ H1, Same H H1 → Shw K H1 x dt) ∧ dt.showable = true ∧ dt.depth ≤ 60 ∧ dt.shown.length ≤ sizeLine
theorem Tg.same {K : PySem.W.Frag} {H H1 : Hp} {x : V} (t : Tg K H x) (s : Same H H1) : Tg K H1 x := let ⟨⟨T, t⟩, dt, h, r⟩ := t; ⟨⟨T, t.same s⟩, dt, fun H2 s2 => h H2 (s.trans s2), r⟩
def okDt (d : PyData) : Bool := d.showable && decide (d.depth ≤ 60) && decide (d.shown.length ≤ sizeLine)
theorem okDt_of {d : PyData} (h : okDt d = true) : d.showable = true ∧ d.depth ≤ 60 ∧ d.shown.length ≤ sizeLine := by
  unfold okDt at h
  rw [Bool.and_eq_true, Bool.and_eq_true] at h
  exact ⟨h.1.1, of_decide_eq_true h.1.2, of_decide_eq_true h.2⟩
section
variable {K : PySem.W.Frag} {H : Hp}
theorem tg_int {i : Int} (h : okDt (.int i) = true) : Tg K H (.int i) := ⟨⟨_, .int _⟩, .int i, fun _ _ => .dp (.int _) rfl, okDt_of h⟩
theorem tg_bl {b : Bool} (h : okDt (.bool b) = true) : Tg K H (.bl b) := ⟨⟨_, .bl _⟩, .bool b, fun _ _ => .dp (.bl _) rfl, okDt_of h⟩
theorem tg_non : Tg K H .non := ⟨⟨_, .non⟩, .none, fun _ _ => .dp .non rfl, okDt_of (by decide +kernel)⟩
theorem tg_str {z : Str} (h : okDt (.str z) = true) : Tg K H (.str z) := ⟨⟨_, .str _⟩, .str z, fun _ _ => .dp (.str _) rfl, okDt_of h⟩
theorem tg_lst {a : Addr} {xs : List V} (h : H a = some (.lst xs)) (hp : xs.all isPd = true) (n : PyData.hasDict (.list (xs.map pd)) = false) (o : okDt (.list (xs.map pd)) = true) : Tg K H (.ref a) := ⟨⟨_, .lst (seq_of h)⟩, _, fun _ s => .dp (dp_lst (seq_of (s _ _ h)) hp) n, okDt_of o⟩
theorem tg_tup {a : Addr} {xs : List V} (h : H a = some (.tup xs)) (hp : xs.all isPd = true) (n : PyData.hasDict (.tuple (xs.map pd)) = false) (o : okDt (.tuple (xs.map pd)) = true) : Tg K H (.ref a) := ⟨⟨_, .tup (seqT_of h)⟩, _, fun _ s => .dp (dp_tup (seqT_of (s _ _ h)) hp) n, okDt_of o⟩
theorem tg_dk {a : Addr} (h : H a = some (.dK [])) : Tg K H (.ref a) := ⟨⟨_, .dK h⟩, .dict [], fun _ s => .dk (s _ _ h) rfl, okDt_of (by decide +kernel)⟩
theorem pl_tup {a : Addr} {xs : List V} (h : H a = some (.tup xs)) (hp : xs.all isPd = true) (n : placeOk xs = false) : PlaceTh K H (.ref a) false := by
  refine .inr ⟨a, xs, rfl, seqT_of h, fun y hy => ?_, n.symm⟩
  have := List.all_eq_true.mp hp y hy
  cases y with
  | int i => exact ⟨_, .int i⟩
  | bl b => exact ⟨_, .bl b⟩
  | str z => exact ⟨_, .str z⟩
  | non => exact ⟨_, .non⟩
  | _ => cases this
end
def Sizes (ds : List Int) : Prop := Drawn ([8, 8, 8, 10, 7, 7, 64, 9, 100] ++ List.replicate 8 2000) ds
def spBad (K : PySem.W.Frag) : Sp := fun vs H Q _ => ∃ (a : Addr) (ds : List Int), vs = [.ref a] ∧ SqL K H a (ds.map V.int) ∧ Sizes ds ∧
  ∀ p H1 (l b w c : V), H p = none → Same H H1 → H1 p = some (.tup [l, b, w, c]) → Tg K H1 l → lineOk l = false → Tg K H1 b → isIn b 1 32 = false → Tg K H1 w → isIn w 1 64 = false → Tg K H1 c → PlaceTh K H1 c false → Q (.ref p) H1
def spOn (K : PySem.W.Frag) : Sp := fun vs H Q _ => ∃ (a : Addr) (ds : List Int), vs = [.ref a] ∧ SqL K H a (ds.map V.int) ∧ Sizes ds ∧ ∀ H1, Same H H1 → Q (.bl true) H1
/-- lists of places of the looks -/
def LT (G H : Hp) : List V → List (List V) → Prop := Paired fun x d => ∃ a, x = .ref a ∧ H a = some (.lst d) ∧ G a = none ∧ d.length ≤ 3 ∧ d.all atom = true
theorem LT.mono {G H H' : Hp} (k : ∀ a d, G a = none → H a = some (.lst d) → H' a = some (.lst d)) {xs : List V} {ds : List (List V)} (t : LT G H xs ds) : LT G H' xs ds := Paired.mapP t fun x d ⟨a, e, h, g, r⟩ => ⟨a, e, k a d g h, g, r⟩
theorem LT.same {G H H' : Hp} {xs : List V} {ds : List (List V)} (t : LT G H xs ds) (s : Same H H') : LT G H' xs ds := t.mono fun a d _ h => s _ _ h
theorem LT.get {G H : Hp} : ∀ {xs : List V} {ds : List (List V)} {i : Nat} {x : V}, LT G H xs ds → xs[i]? = some x → ∃ a d, ds[i]? = some d ∧ x = .ref a ∧ H a = some (.lst d) ∧ G a = none ∧ d.length ≤ 3 ∧ d.all atom = true
  | _, _, _, _, .nil, e => by simp at e
  | _, _, 0, _, .cons ⟨a, e1, h, r⟩ _, e => by
    cases e
    exact ⟨a, _, rfl, e1, h, r⟩
  | _, _, i + 1, x, .cons _ t, e => LT.get (i := i) t (by simpa using e)
theorem LT.snoc {G H : Hp} {x : V} {d : List V} : ∀ {xs : List V} {ds : List (List V)}, LT G H xs ds → (∃ a, x = .ref a ∧ H a = some (.lst d) ∧ G a = none ∧ d.length ≤ 3 ∧ d.all atom = true) → LT G H (xs ++ [x]) (ds ++ [d])
  | _, _, .nil, h => .cons h .nil
  | _, _, .cons r t, h => .cons r (LT.snoc t h)
theorem LT.len {G H : Hp} {xs : List V} {ds : List (List V)} (t : LT G H xs ds) : xs.length = ds.length := Paired.length t
theorem LT.refs {G H : Hp} : ∀ {xs : List V} {ds : List (List V)}, LT G H xs ds → xs.all atom = true
  | _, _, .nil => rfl
  | _, _, .cons ⟨a, e, _⟩ t => by
    subst e
    show (true && _) = true
    rw [Bool.true_and]
    exact LT.refs (G := G) (H := H) t
/-- two such lists of the same lists are equal -/
theorem LT.eqv {K : PySem.W.Frag} {G G' H : Hp} : ∀ {xs ys : List V} {ds : List (List V)}, LT G H xs ds → LT G' H ys ds → Paired (EqV K H 2) xs ys
  | _, _, _, .nil, .nil => .nil
  | _, _, _, .cons ⟨a, e, h, _, _, hd⟩ t, .cons ⟨b, e2, h2, _⟩ t2 => by
    subst e
    subst e2
    exact .cons (.inr (.inr (.inl ⟨a, b, _, _, rfl, rfl, seq_of h, seq_of h2, eqV_atoms hd⟩))) (LT.eqv t t2)
def offD (D : Addr) : Hp := fun b => if b = D then some (.lst []) else none
theorem offD_ne {D b : Addr} (h : offD D b = none) : b ≠ D := fun e => by
  unfold offD at h
  rw [if_pos e] at h
  cases h
def betwI (f l : Int) (ns : List Int) (ds : List (List V)) (i : Nat) : List V := (((ns.zip ds).take i).map fun p => if f ≤ p.1 ∧ p.1 ≤ l then p.2 else []).flatten
def betw (f l : Int) (ns : List Int) (ds : List (List V)) : List V := betwI f l ns ds ns.length
theorem betw_succ {f l z : Int} {ns : List Int} {ds : List (List V)} {i : Nat} {d : List V} (h : ns[i]? = some z) (h2 : ds[i]? = some d) : betwI f l ns ds (i + 1) = betwI f l ns ds i ++ (if f ≤ z ∧ z ≤ l then d else []) := by
  have e : (ns.zip ds)[i]? = some (z, d) := List.getElem?_zip_eq_some.mpr ⟨h, h2⟩
  unfold betwI
  rw [take_snoc e, List.map_append, List.flatten_append]
  simp
def spBetween (K : PySem.W.Frag) : Sp := fun vs H Q _ => ∃ (a b : Addr) (ns : List Int) (ps : List V) (ds : List (List V)) (f l : Int) (G : Hp), vs = [.ref a, .ref b, .int f, .int l] ∧ SqL K H a (ns.map V.int) ∧ SqL K H b ps ∧ ns.length = ps.length ∧ ns.length ≤ 8 ∧ LT G H ps ds ∧
  ∀ p H1, H p = none → Same H H1 → H1 p = some (.lst (betw f l ns ds)) → Q (.ref p) H1
def spLaw (K : PySem.W.Frag) : Sp := fun vs H Q _ => ∃ (a : Addr) (ns : List Int), vs = [.ref a] ∧ SqL K H a (ns.map V.int) ∧ ns.length ≤ 63 ∧ ∀ H', Q (.bl true) H'
theorem Drawn.at {ms ws : List Int} (d : Drawn ms ws) : ∀ {j : Nat} {m : Int}, ms[j]? = some m → ∃ v, ws[j]? = some v ∧ 0 ≤ v ∧ v < m := by
  induction d with
  | nil => intro j m h; simp at h
  | @cons a b l1 l2 h _ ih =>
    intro j m e
    cases j with
    | zero =>
      rw [List.getElem?_cons_zero] at e
      cases e
      exact ⟨b, rfl, h⟩
    | succ j =>
      rw [List.getElem?_cons_succ] at e
      obtain ⟨v, h1, h2⟩ := ih e
      exact ⟨v, by rw [List.getElem?_cons_succ]; exact h1, h2⟩
theorem Drawn.pick {ms ws : List Int} (d : Drawn ms ws) {k : Int} {m : Int} (h0 : 0 ≤ k) (h : ms[k.toNat]? = some m) : ∃ v, atI (ws.map V.int) k = some (.int v) ∧ 0 ≤ v ∧ v < m := by
  obtain ⟨v, h1, h2⟩ := d.at h
  refine ⟨v, at_of (j := k.toNat) (by omega) ?_, h2⟩
  rw [List.getElem?_map, h1]
  rfl
section
variable {P : Program} {w : World} {K : PySem.W.Frag} {mg : Str → Option Value} {base : Heap}
theorem ok_touch {f : Addr} {fd : FuncData} (F : Fun K "touch" "Kept.touch" s_Kept_touch f fd) : FnOk P w K mg base CX0 1 f fd ["self", "line"] spNo := by exact ⟨fun _ _ _ _ h => h.elim, fun _ _ _ _ _ _ _ _ _ _ _ _ _ h => h.elim⟩
theorem ok_missed {f : Addr} {fd : FuncData} (F : Fun K "missed" "missed" s_missed f fd) : FnOk P w K mg base CX0 1 f fd ["found", "bound"] spNo := by exact ⟨fun _ _ _ _ h => h.elim, fun _ _ _ _ _ _ _ _ _ _ _ _ _ h => h.elim⟩
theorem ok_isFetch {f : Addr} {fd : FuncData} (F : Fun K "is_fetch" "is_fetch" s_is_fetch f fd) : FnOk P w K mg base CX0 1 f fd ["row", "line", "due"] spNo := by exact ⟨fun _ _ _ _ h => h.elim, fun _ _ _ _ _ _ _ _ _ _ _ _ _ h => h.elim⟩
theorem ok_needBound {f C_NoKeep : Addr} {fd : FuncData} (F : Fun K "need_bound" "need_bound" s_need_bound f fd) (c_MOST_KEPT : ∃ t, mg "MOST_KEPT" = some (.int 32 t)) (D_is_within : Dn P w K mg base CX0 2 "is_within" ["thing", "low", "high"] (spIsWithin K)) (X_NoKeep : Xn P w K mg base 1 C_NoKeep "NoKeep" ["self", "found"] (spX C_NoKeep ["found"])) : FnOk P w K mg base (L2.CX P w) 3 f fd ["most"] (spBoundBad K C_NoKeep) := by
  refine F.okX sc_need_bound (fun vs H Q E h => ?_) (fun cdv A outer s H vs Q E hr h => ?_)
  · obtain ⟨m, rfl, _⟩ := h
    rfl
  · obtain ⟨m, rfl, ⟨T, t, e⟩, q⟩ := h
    refine ⟨_, (pss_one (ps_if (pt_not (pt_val (pe_cd D_is_within (hr.mono (by decide)) (by rfl) pass0 (pa_cons (pv 0) (pa_cons pe_int (pa_cons (pe_gi (by rfl) c_MOST_KEPT) pa_nil)))))) (pss_one (ps_rz X_NoKeep rfl (takes_of rfl rfl rfl rfl) (hr.mono (by decide)) (by rfl) pass0 (pa_cons (pv 0) pa_nil))) pss_nil)), ?_⟩
    walk_at "rd"
    exact ⟨m, T, _, _, rfl, t.thg, _, rfl, iteP e q⟩
theorem ok_kInit {f C_Kept C_NoKeep : Addr} {fd : FuncData} (F : Fun K "__init__" "Kept.__init__" s_Kept_init f fd) (K_Kept : Cls K C_Kept) (A_Kept_bound : NoAttr K C_Kept "bound") (A_Kept_had : NoAttr K C_Kept "had") (D_need_bound : Dn P w K mg base (L2.CX P w) 3 "need_bound" ["most"] (spBoundBad K C_NoKeep)) : FnOk P w K mg base (L2.CX P w) 4 f fd ["self", "most"] (spKInitBad K C_Kept C_NoKeep) := by
  refine F.okX sc_Kept_init (fun vs H Q E h => ?_) (fun cdv A outer s H vs Q E hr h => ?_)
  · obtain ⟨p, m, rfl, _⟩ := h
    rfl
  · obtain ⟨p, m, rfl, b, q⟩ := h
    refine ⟨_, (pss_cons (ps_expr (pe_cdS D_need_bound (hr.mono (by decide)) (by rfl) (fun σ => passAt (takes_of rfl rfl rfl rfl) σ) (pa_cons (pv 1) pa_nil)))
      (pss_cons (ps_fldK (pv 0) (pv 1) rfl (K := K))
      (pss_one (ps_fldK (pv 0) (pe_lst pa_nil) rfl (K := K))))), ?_⟩
    walk_at "rd"
    exact ⟨m, rfl, b, q⟩
theorem ok_fetches {f C_Kept C_NoLine C_NoKeep : Addr} {fd : FuncData} (F : Fun K "fetches" "fetches" s_fetches f fd) (D_need_lines : Dn P w K mg base (L2.CX P w) 4 "need_lines" ["lines"] (spNeedLines K C_NoLine)) (M_Kept : Mn P w K mg base (L2.CX P w) 4 C_Kept "Kept" ["self", "most"] (spKInitBad K C_Kept C_NoKeep)) (N_Kept_touch : Nn P w K mg base CX0 1 C_Kept "touch" ["self", "line"] spNo) : FnOk P w K mg base (L2.CX P w) 6 f fd ["lines", "most"] (spBad2 K C_NoLine C_NoKeep) := by
  refine F.okX sc_fetches (fun vs H Q E h => ?_) (fun cdv A outer s H vs Q E hr h => ?_)
  · obtain ⟨a, m, rfl, _⟩ := h
    rfl
  · obtain ⟨a, m, rfl, hb⟩ := h
    refine ⟨_, (pss_cons (ps_expr (pe_cdS D_need_lines (hr.mono (by decide)) (by rfl) (fun σ => passAt (takes_of rfl rfl rfl rfl) σ) (pa_cons (pv 0) pa_nil)))
      (pss_cons (ps_set (i := 2) sc_fetches.nd rfl (by first | exact Or.inl rfl | exact Or.inr rfl) (pe_mkS M_Kept (hr.mono (by decide)) (by rfl) (fun σ => passAt (takes_of rfl rfl rfl rfl) σ) (pa_cons (pv 1) pa_nil)))
      (pss_cons (ps_set (i := 3) sc_fetches.nd rfl (by first | exact Or.inl rfl | exact Or.inr rfl) (pe_lst pa_nil))
      (pss_cons (ps_for (passes_of rfl) rfl (pi_listK (pv 0) (K := K)) (pg_name (i := 4) sc_fetches.nd rfl (by first | exact Or.inl rfl | exact Or.inr rfl)) (pss_cons (ps_asg (pe_md (pv 2) N_Kept_touch (hr.mono (by decide)) pass0 (pa_cons (pv 4) pa_nil)) (pg_tup rfl (pgs_cons (pg_name (i := 5) sc_fetches.nd rfl (by first | exact Or.inl rfl | exact Or.inr rfl)) (pgs_cons (pg_name (i := 6) sc_fetches.nd rfl (by first | exact Or.inl rfl | exact Or.inr rfl)) pgs_nil))))
      (pss_one (ps_expr (pe_bmK (K := K) PySem.F.plainAttrs_list PySem.F.slot_list_append PySem.F.type_list_append mt_append (pv 3) (pa_cons (pe_tup (pa_cons (pv 4) (pa_cons (pv 5) (pa_cons (pv 6) pa_nil)))) pa_nil))))))
      (pss_one (ps_ret (pv 3))))))), ?_⟩
    walk_at "rd"
    rcases hb with ⟨x, b, q⟩ | ⟨⟨ns, hS, h0, _⟩, b, q⟩
    · exact ⟨a, rfl, .inr ⟨x, b, q⟩⟩
    · exact ⟨a, rfl, .inl ⟨ns, hS, h0, Made.intro fun p dx H1 np s1 h1 => ⟨p, m, rfl, b.same s1, q.same s1⟩⟩⟩
theorem ok_howMany {f C_NoLine C_NoKeep : Addr} {fd : FuncData} (F : Fun K "how_many" "how_many" s_how_many f fd) (z_len : mg "len" = none) (D_fetches : Dn P w K mg base (L2.CX P w) 6 "fetches" ["lines", "most"] (spBad2 K C_NoLine C_NoKeep)) : FnOk P w K mg base (L2.CX P w) 7 f fd ["lines", "most"] (spBad2 K C_NoLine C_NoKeep) := by
  refine F.okX sc_how_many (fun vs H Q E h => ?_) (fun cdv A outer s H vs Q E hr h => ?_)
  · obtain ⟨a, m, rfl, _⟩ := h
    rfl
  · obtain ⟨a, m, rfl, hb⟩ := h
    refine ⟨_, (pss_one (ps_ret (pe_callB (call_lenR (K := K)) (by rfl) z_len (by decide +kernel) (pa_cons (pe_lc (own := [("row", 2)]) (g := gName 2) rfl sc_how_many.nd (pi_listK (pe_cdS D_fetches (hr.mono (by decide)) (by rfl) (fun σ => passAt (takes_of rfl rfl rfl rfl) σ) (pa_cons (pv 0) (pa_cons (pv 1) pa_nil))) (K := K)) (blkOk_by (own := [("row", 2)]) (N := ["lines", "most", "row"]) (sc := defScope s_how_many) (by decide +kernel)) (fun _ _ _ _ _ => pg_name (i := 2) sc_how_many.nd rfl (Or.inl rfl)) (fun _ _ _ _ _ => (pts_one (pt_val (pe_ix (ix_tupK (K := K)) (pv 2) pe_int (fun _ _ => rfl))))) (fun _ _ _ _ _ => (pv 2))) pa_nil)))), ?_⟩
    walk_at "rd"
    exact ⟨a, m, rfl, hb⟩
theorem ok_counts {f C_NoLine C_NoKeep : Addr} {fd : FuncData} (F : Fun K "counts" "counts" s_counts f fd) (z_range : mg "range" = none) (D_distances : Dn P w K mg base (L2.CX P w) 5 "distances" ["lines"] (spDist K C_NoLine)) (D_need_bound : Dn P w K mg base (L2.CX P w) 3 "need_bound" ["most"] (spBoundBad K C_NoKeep)) (D_missed : Dn P w K mg base CX0 1 "missed" ["found", "bound"] spNo) : FnOk P w K mg base (L2.CX P w) 6 f fd ["lines", "most"] (spBad2 K C_NoLine C_NoKeep) := by
  refine F.okX sc_counts (fun vs H Q E h => ?_) (fun cdv A outer s H vs Q E hr h => ?_)
  · obtain ⟨a, m, rfl, _⟩ := h
    rfl
  · obtain ⟨a, m, rfl, hb⟩ := h
    refine ⟨_, (pss_cons (ps_set (i := 2) sc_counts.nd rfl (by first | exact Or.inl rfl | exact Or.inr rfl) (pe_cdS D_distances (hr.mono (by decide)) (by rfl) (fun σ => passAt (takes_of rfl rfl rfl rfl) σ) (pa_cons (pv 0) pa_nil)))
      (pss_cons (ps_expr (pe_cdS D_need_bound (hr.mono (by decide)) (by rfl) (fun σ => passAt (takes_of rfl rfl rfl rfl) σ) (pa_cons (pv 1) pa_nil)))
      (pss_one (ps_ret (pe_lc (own := [("bound", 3)]) (g := gName 3) (tt := tYes) rfl sc_counts.nd (pi_rangeL2 (by rfl) z_range (pa_cons pe_int (pa_cons (pe_op op_add (pv 1) pe_int) pa_nil))) (blkOk_by (own := [("bound", 3)]) (N := ["lines", "most", "found", "bound"]) (sc := defScope s_counts) (by decide +kernel)) (fun _ _ _ _ _ => pg_name (i := 3) sc_counts.nd rfl (Or.inl rfl)) (fun _ _ _ _ _ => pts_nil) (fun _ _ _ _ _ => (pe_cd D_missed (hr.mono (by decide)) (by rfl) pass0 (pa_cons (pv 2) (pa_cons (pv 3) pa_nil))))))))), ?_⟩
    walk_at "rd"
    rcases hb with ⟨x, b, q⟩ | ⟨⟨ns, hS, h0, hl⟩, b, q⟩
    · exact ⟨a, rfl, .inr ⟨x, b, q⟩⟩
    · exact ⟨a, rfl, .inl ⟨ns, hS, h0, hl, fun p H1 xs np s1 h1 => ⟨m, rfl, b.same s1, q.same s1⟩⟩⟩
theorem ok_isFetches {f C_Kept C_NoLine C_NoKeep : Addr} {fd : FuncData} (F : Fun K "is_fetches" "is_fetches" s_is_fetches f fd) (z_isinstance : mg "isinstance" = none) (z_list : mg "list" = none) (z_len : mg "len" = none) (z_zip : mg "zip" = none) (D_need_lines : Dn P w K mg base (L2.CX P w) 4 "need_lines" ["lines"] (spNeedLines K C_NoLine)) (M_Kept : Mn P w K mg base (L2.CX P w) 4 C_Kept "Kept" ["self", "most"] (spKInitBad K C_Kept C_NoKeep)) (N_Kept_touch : Nn P w K mg base CX0 1 C_Kept "touch" ["self", "line"] spNo) (D_is_fetch : Dn P w K mg base CX0 1 "is_fetch" ["row", "line", "due"] spNo) : FnOk P w K mg base (L2.CX P w) 6 f fd ["lines", "most", "thing"] (spBad3 K C_NoLine C_NoKeep) := by
  refine F.okX sc_is_fetches (fun vs H Q E h => ?_) (fun cdv A outer s H vs Q E hr h => ?_)
  · obtain ⟨a, m, y, rfl, _⟩ := h
    rfl
  · obtain ⟨a, m, y, rfl, hb⟩ := h
    refine ⟨_, (pss_cons (ps_expr (pe_cdS D_need_lines (hr.mono (by decide)) (by rfl) (fun σ => passAt (takes_of rfl rfl rfl rfl) σ) (pa_cons (pv 0) pa_nil)))
      (pss_cons (ps_set (i := 3) sc_is_fetches.nd rfl (by first | exact Or.inl rfl | exact Or.inr rfl) (pe_mkS M_Kept (hr.mono (by decide)) (by rfl) (fun σ => passAt (takes_of rfl rfl rfl rfl) σ) (pa_cons (pv 1) pa_nil)))
      (pss_cons (ps_if (PW.pt (pw_or (pt_not (pt_val (pe_callB (call_isiK' (K := K)) (by rfl) z_isinstance (by decide +kernel) (pa_cons (pv 2) (pa_cons (pe_bltn (v := V.ty "list") (u := Value.type "list") (by rfl) z_list (by decide +kernel) rfl) pa_nil))))) (pw_or1 (pt_cmpR op_ne (pe_callB (call_lenR (K := K)) (by rfl) z_len (by decide +kernel) (pa_cons (pv 2) pa_nil)) (pe_callB (call_lenR (K := K)) (by rfl) z_len (by decide +kernel) (pa_cons (pv 0) pa_nil)) (nomark _))))) (pss_one (ps_ret pe_bl)) pss_nil)
      (pss_cons (ps_for (passes_of rfl) rfl (pi_zipK (by rfl) z_zip (pa_cons (pv 0) (pa_cons (pv 2) pa_nil)) (K := K)) (pg_tup rfl (pgs_cons (pg_name (i := 4) sc_is_fetches.nd rfl (by first | exact Or.inl rfl | exact Or.inr rfl)) (pgs_cons (pg_name (i := 5) sc_is_fetches.nd rfl (by first | exact Or.inl rfl | exact Or.inr rfl)) pgs_nil))) (pss_one (ps_if (pt_not (pt_val (pe_cd D_is_fetch (hr.mono (by decide)) (by rfl) pass0 (pa_cons (pv 5) (pa_cons (pv 4) (pa_cons (pe_md (pv 3) N_Kept_touch (hr.mono (by decide)) pass0 (pa_cons (pv 4) pa_nil)) pa_nil)))))) (pss_one (ps_ret pe_bl)) pss_nil)))
      (pss_one (ps_ret pe_bl)))))), ?_⟩
    walk_at "rd"
    rcases hb with ⟨x, b, q⟩ | ⟨⟨ns, hS, h0, _⟩, b, q⟩
    · exact ⟨a, rfl, .inr ⟨x, b, q⟩⟩
    · exact ⟨a, rfl, .inl ⟨ns, hS, h0, Made.intro fun p dx H1 np s1 h1 => ⟨p, m, rfl, b.same s1, q.same s1⟩⟩⟩
theorem ok_linesOf {f C_NoLine C_NoPlace : Addr} {fd : FuncData} (F : Fun K "lines_of" "lines_of" s_lines_of f fd) (z_range : mg "range" = none) (c_WIDEST_LINE : ∃ t, mg "WIDEST_LINE" = some (.int 64 t)) (D_is_within : Dn P w K mg base CX0 2 "is_within" ["thing", "low", "high"] (spIsWithin K)) (D_cells_in : Dn P w K mg base (L2.CX P w) 4 "cells_in" ["place"] (spCellsInX K C_NoPlace)) (X_NoLine : Xn P w K mg base 1 C_NoLine "NoLine" ["self", "found"] (spX C_NoLine ["found"])) : FnOk P w K mg base (L2.CX P w) 6 f fd ["places", "wide"] (spLinesBad K C_NoLine C_NoPlace) := by
  refine F.okX sc_lines_of (fun vs H Q E h => ?_) (fun cdv A outer s H vs Q E hr h => ?_)
  · obtain ⟨a, m, rfl, _⟩ := h
    rfl
  · obtain ⟨a, m, rfl, hb⟩ := h
    refine ⟨_, (pss_cons (ps_if (pt_not (pt_val (pe_cd D_is_within (hr.mono (by decide)) (by rfl) pass0 (pa_cons (pv 1) (pa_cons pe_int (pa_cons (pe_gi (by rfl) c_WIDEST_LINE) pa_nil)))))) (pss_one (ps_rz X_NoLine rfl (takes_of rfl rfl rfl rfl) (hr.mono (by decide)) (by rfl) pass0 (pa_cons (pv 1) pa_nil))) pss_nil)
      (pss_cons (ps_set (i := 2) sc_lines_of.nd rfl (by first | exact Or.inl rfl | exact Or.inr rfl) (pe_lst pa_nil))
      (pss_cons (ps_for (passes_of rfl) rfl (pi_listK (pv 0) (K := K)) (pg_name (i := 3) sc_lines_of.nd rfl (by first | exact Or.inl rfl | exact Or.inr rfl)) (pss_cons (ps_set (i := 4) sc_lines_of.nd rfl (by first | exact Or.inl rfl | exact Or.inr rfl) (pe_cdS D_cells_in (hr.mono (by decide)) (by rfl) (fun σ => passAt (takes_of rfl rfl rfl rfl) σ) (pa_cons (pv 3) pa_nil)))
      (pss_one (ps_for (passes_of rfl) rfl (pi_rangeL2 (by rfl) z_range (pa_cons (pe_op op_fdivW (pe_ix (ix_listK (K := K)) (pv 4) pe_int (fun _ _ => rfl)) (pv 1)) (pa_cons (pe_op op_add (pe_op op_fdivW (pe_ix (ix_listK (K := K)) (pv 4) (pe_un un_neg pe_int) (fun _ _ => rfl)) (pv 1)) pe_int) pa_nil))) (pg_name (i := 5) sc_lines_of.nd rfl (by first | exact Or.inl rfl | exact Or.inr rfl)) (pss_one (ps_expr (pe_bmK (K := K) PySem.F.plainAttrs_list PySem.F.slot_list_append PySem.F.type_list_append mt_append (pv 2) (pa_cons (pv 5) pa_nil))))))))
      (pss_one (ps_ret (pv 2)))))), ?_⟩
    walk_at "rd"
    rcases hb with ⟨⟨T, t, e⟩, q, _⟩ | ⟨w, x, rfl, w1, w2, ⟨pre, post, xs, ds, hS, rfl, hT, ho, hx, hl⟩, q⟩
    · exact ⟨m, T, _, _, rfl, t.thg, _, rfl, iteP e q⟩
    refine ⟨.int w, "int", 1, 64, rfl, thg_int, _, rfl, iteN ?_ ⟨by decide, New.intro fun p H1 np s1 h1 => ⟨⟨_, s1.seq hS⟩, ?_⟩⟩⟩
    · show ¬ (decide (1 ≤ w) && decide (w ≤ 64)) = false
      rw [decide_eq_true w1, decide_eq_true w2]
      decide
    have hlen := hT.len
    refine Loop.list (xs := pre ++ x :: post) (fun i σ H2 => ∃ (x1 x2 x3 : Option V) (acc : List V), σ = [some (.ref a), some (.int w), some (.ref p), x1, x2, x3] ∧ Same H H2 ∧ H2 p = some (.lst acc) ∧ acc.length ≤ 100 * i ∧ i ≤ pre.length) ⟨none, none, none, [], rfl, s1, h1, Nat.le_refl _, Nat.zero_le _⟩ ?_ ?_ ?_
    · rintro i σ H2 _ ⟨x1, x2, x3, acc, rfl, s2, h2, _⟩
      exact s2.seq hS
    · rintro i x' σ H2 hx' ⟨x1, x2, x3, acc, rfl, s2, h2, ha, hi⟩
      walk_at "rd"
      by_cases e : i < pre.length
      · rw [List.getElem?_append_left e] at hx'
        obtain ⟨t, d, hd, rfl, hd2⟩ := hT.get hx'
        obtain ⟨c, s, b, rfl, okd⟩ := ho d (List.mem_of_getElem? hd)
        have hb := okP_last okd
        refine ⟨_, rfl, .inl ⟨t, c, s, b, rfl, Same.seqT s2 hd2, okd, fun u H3 nu s3 h3 => ?_⟩⟩
        walk_at "rd"
        have at0 : atI ((cellsR c s b).map V.int) 0 = some (.int c) := by
          refine at_of (j := 0) rfl (at_int ?_)
          unfold cellsR
          rw [List.getElem?_map, List.getElem?_range (by omega)]
          show some (c + ((0 : Nat) : Int)) = some c
          rw [Int.natCast_zero, Int.add_zero]
        have atL : atI ((cellsR c s b).map V.int) (-1) = some (.int (lastC c s b)) := by
          have e : (lastC c s b - c + 1).toNat = (lastC c s b - c).toNat + 1 := by omega
          unfold cellsR
          rw [e, List.range_succ, List.map_append, List.map_append, List.map_cons, List.map_nil, List.map_cons, List.map_nil, atI_last]
          congr 2
          omega
        have cw : ∀ y : Int, CDivW y w := fun y => wide_div (b := 200) (by omega) (by omega) (by decide) (by decide)
        refine ⟨_, seq_of h3, _, at0, _, rfl, cw _, _, seq_of h3, _, atL, _, rfl, cw _, ?_⟩
        have en : (lastC c s b / w + 1 - c / w).toNat ≤ 100 := by
          have := linesOf_len (w := w) okd w1
          unfold linesOf at this
          rw [List.length_map, List.length_range] at this
          omega
        refine Loop.range (fun k σ H4 => ∃ (y : Option V) (ac : List V), σ = [some (.ref a), some (.int w), some (.ref p), some (.ref t), some (.ref u), y] ∧ Same H H4 ∧ H4 p = some (.lst ac) ∧ ac.length ≤ 100 * i + k) ⟨_, _, rfl, s2.trans s3, s3 _ _ h2, ha⟩ ?_ ?_
        · rintro k σ H4 hk ⟨y, ac, rfl, s4, h4, hc⟩
          walk_at "rd"
          refine ⟨tyv_list (seq_of h4), _, h4, sz100l (by omega), Upd.intro fun H5 o5 h5 => ⟨Same.off s4 np o5, _, h5, by rw [List.length_append, List.length_singleton]; omega⟩⟩
        · rintro σ H4 ⟨y, ac, rfl, s4, h4, hc⟩
          walk_at "rd"
          exact ⟨s4, _, h4, by omega, e⟩
      · have ei : i = pre.length := by omega
        subst ei
        rw [List.getElem?_append_right (Nat.le_refl _), Nat.sub_self, List.getElem?_cons_zero] at hx'
        cases hx'
        exact ⟨_, rfl, .inr ⟨hx.same s2, q.same s2⟩⟩
    · rintro σ H2 ⟨x1, x2, x3, acc, rfl, s2, h2, ha, hi⟩
      rw [List.length_append, List.length_cons] at hi
      omega
theorem ok_asked {f C_Kept C_NoLine C_NoKeep C_NoPlace : Addr} {fd : FuncData} (F : Fun K "_law_asked" "_law_asked" s_law_asked f fd) (D_fetches : Dn P w K mg base (L2.CX P w) 6 "fetches" ["lines", "most"] (spBad2 K C_NoLine C_NoKeep)) (D_how_many : Dn P w K mg base (L2.CX P w) 7 "how_many" ["lines", "most"] (spBad2 K C_NoLine C_NoKeep)) (D_counts : Dn P w K mg base (L2.CX P w) 6 "counts" ["lines", "most"] (spBad2 K C_NoLine C_NoKeep)) (D_is_fetches : Dn P w K mg base (L2.CX P w) 6 "is_fetches" ["lines", "most", "thing"] (spBad3 K C_NoLine C_NoKeep)) (D_lines_of : Dn P w K mg base (L2.CX P w) 6 "lines_of" ["places", "wide"] (spLinesBad K C_NoLine C_NoPlace)) (D_distances : Dn P w K mg base (L2.CX P w) 5 "distances" ["lines"] (spDist K C_NoLine)) (M_Kept : Mn P w K mg base (L2.CX P w) 4 C_Kept "Kept" ["self", "most"] (spKInitBad K C_Kept C_NoKeep)) : FnOk P w K mg base (L2.CX P w) 8 f fd ["_law_which", "_law_lines", "_law_most"] (spAsked K C_NoLine C_NoKeep C_NoPlace) := by
  refine F.okX sc_law_asked (fun vs H Q E h => ?_) (fun cdv A outer s H vs Q E hr h => ?_)
  · obtain ⟨k, a, m, C, x, rfl, _⟩ := h
    rfl
  · obtain ⟨k, a, m, C, x, rfl, hk, q⟩ := h
    refine ⟨_, (pss_cons (ps_if (pt_cmpR op_eq (pv 0) pe_int (nomark _)) (pss_one (ps_ret (pe_cdS D_fetches (hr.mono (by decide)) (by rfl) (fun σ => passAt (takes_of rfl rfl rfl rfl) σ) (pa_cons (pv 1) (pa_cons (pv 2) pa_nil))))) pss_nil)
      (pss_cons (ps_if (pt_cmpR op_eq (pv 0) pe_int (nomark _)) (pss_one (ps_ret (pe_cdS D_how_many (hr.mono (by decide)) (by rfl) (fun σ => passAt (takes_of rfl rfl rfl rfl) σ) (pa_cons (pv 1) (pa_cons (pv 2) pa_nil))))) pss_nil)
      (pss_cons (ps_if (pt_cmpR op_eq (pv 0) pe_int (nomark _)) (pss_one (ps_ret (pe_cdS D_counts (hr.mono (by decide)) (by rfl) (fun σ => passAt (takes_of rfl rfl rfl rfl) σ) (pa_cons (pv 1) (pa_cons (pv 2) pa_nil))))) pss_nil)
      (pss_cons (ps_if (pt_cmpR op_eq (pv 0) pe_int (nomark _)) (pss_one (ps_ret (pe_cdS D_is_fetches (hr.mono (by decide)) (by rfl) (fun σ => passAt (takes_of rfl rfl rfl rfl) σ) (pa_cons (pv 1) (pa_cons (pv 2) (pa_cons pe_non pa_nil)))))) pss_nil)
      (pss_cons (ps_if (pt_cmpR op_eq (pv 0) pe_int (nomark _)) (pss_one (ps_ret (pe_cdS D_lines_of (hr.mono (by decide)) (by rfl) (fun σ => passAt (takes_of rfl rfl rfl rfl) σ) (pa_cons (pv 1) (pa_cons (pv 2) pa_nil))))) pss_nil)
      (pss_cons (ps_if (pt_cmpR op_eq (pv 0) pe_int (nomark _)) (pss_one (ps_ret (pe_cdS D_distances (hr.mono (by decide)) (by rfl) (fun σ => passAt (takes_of rfl rfl rfl rfl) σ) (pa_cons (pv 1) pa_nil)))) pss_nil)
      (pss_one (ps_ret (pe_mkS M_Kept (hr.mono (by decide)) (by rfl) (fun σ => passAt (takes_of rfl rfl rfl rfl) σ) (pa_cons (pv 2) pa_nil)))))))))), ?_⟩
    walk_at "rd"
    cases hk with
    | line hk h =>
      rcases hk with rfl | rfl | rfl | rfl | rfl
      · exact iteP rfl ⟨a, m, rfl, .inl ⟨x, h, q⟩⟩
      · exact iteN (by decide) (iteP rfl ⟨a, m, rfl, .inl ⟨x, h, q⟩⟩)
      · exact iteN (by decide) (iteN (by decide) (iteP rfl ⟨a, m, rfl, .inl ⟨x, h, q⟩⟩))
      · exact iteN (by decide) (iteN (by decide) (iteN (by decide) (iteP rfl ⟨a, m, _, rfl, .inl ⟨x, h, q⟩⟩)))
      · exact iteN (by decide) (iteN (by decide) (iteN (by decide) (iteN (by decide) (iteN (by decide) (iteP rfl ⟨a, rfl, .inr ⟨x, h, q⟩⟩)))))
    | keep hk h b =>
      rcases hk with rfl | rfl | rfl | rfl
      · exact iteP rfl ⟨a, m, rfl, .inr ⟨h, b, q⟩⟩
      · exact iteN (by decide) (iteP rfl ⟨a, m, rfl, .inr ⟨h, b, q⟩⟩)
      · exact iteN (by decide) (iteN (by decide) (iteP rfl ⟨a, m, rfl, .inr ⟨h, b, q⟩⟩))
      · exact iteN (by decide) (iteN (by decide) (iteN (by decide) (iteP rfl ⟨a, m, _, rfl, .inr ⟨h, b, q⟩⟩)))
    | kept b => exact iteN (by decide) (iteN (by decide) (iteN (by decide) (iteN (by decide) (iteN (by decide) (iteN (by decide) (Made.intro fun p dx H1 np s1 h1 => ⟨p, m, rfl, b.same s1, q.same s1⟩))))))
    | wide b h => exact iteN (by decide) (iteN (by decide) (iteN (by decide) (iteN (by decide) (iteP rfl ⟨a, m, rfl, .inl ⟨b, q, h⟩⟩))))
    | place h1 h2 h => exact iteN (by decide) (iteN (by decide) (iteN (by decide) (iteN (by decide) (iteP rfl ⟨a, _, rfl, .inr ⟨_, x, rfl, h1, h2, h, q⟩⟩))))
theorem ok_refused {f C_NoLine C_NoKeep C_NoPlace C_RoomError : Addr} {fd : FuncData} (F : Fun K "_law_refused" "_law_refused" s_law_refused f fd) (z_isinstance : mg "isinstance" = none) (z_repr : mg "repr" = none) (z_ValueError : mg "ValueError" = none) (G_RoomError : mg "RoomError" = some (.ref C_RoomError)) (G_NoLine : mg "NoLine" = some (.ref C_NoLine)) (Y_NoLine : XfC K C_NoLine) (I_NoLine : ExcC K C_NoLine) (B_NoLine_found : PySem.W.findIn K (.ref C_NoLine) "found" = some none) (E_NoLine_RoomError : PySem.W.exmOne K (.ref C_NoLine) (.ref C_RoomError) = some true) (U_NoLine_ValueError : PySem.W.kitOne K (.ref C_NoLine) (.type "ValueError") = some true) (G_NoKeep : mg "NoKeep" = some (.ref C_NoKeep)) (Y_NoKeep : XfC K C_NoKeep) (I_NoKeep : ExcC K C_NoKeep) (B_NoKeep_found : PySem.W.findIn K (.ref C_NoKeep) "found" = some none) (E_NoKeep_RoomError : PySem.W.exmOne K (.ref C_NoKeep) (.ref C_RoomError) = some true) (U_NoKeep_ValueError : PySem.W.kitOne K (.ref C_NoKeep) (.type "ValueError") = some true) (G_NoPlace : mg "NoPlace" = some (.ref C_NoPlace)) (Y_NoPlace : XfC K C_NoPlace) (I_NoPlace : ExcC K C_NoPlace) (B_NoPlace_found : PySem.W.findIn K (.ref C_NoPlace) "found" = some none) (E_NoPlace_RoomError : PySem.W.exmOne K (.ref C_NoPlace) (.ref C_RoomError) = some true) (U_NoPlace_ValueError : PySem.W.kitOne K (.ref C_NoPlace) (.type "ValueError") = some true) (Q_NoLine_NoLine : PySem.W.kitOne K (.ref C_NoLine) (.ref C_NoLine) = some true) (Q_NoLine_NoKeep : PySem.W.kitOne K (.ref C_NoLine) (.ref C_NoKeep) = some false) (Q_NoLine_NoPlace : PySem.W.kitOne K (.ref C_NoLine) (.ref C_NoPlace) = some false) (Q_NoKeep_NoLine : PySem.W.kitOne K (.ref C_NoKeep) (.ref C_NoLine) = some false) (Q_NoKeep_NoKeep : PySem.W.kitOne K (.ref C_NoKeep) (.ref C_NoKeep) = some true) (Q_NoKeep_NoPlace : PySem.W.kitOne K (.ref C_NoKeep) (.ref C_NoPlace) = some false) (Q_NoPlace_NoLine : PySem.W.kitOne K (.ref C_NoPlace) (.ref C_NoLine) = some false) (Q_NoPlace_NoKeep : PySem.W.kitOne K (.ref C_NoPlace) (.ref C_NoKeep) = some false) (Q_NoPlace_NoPlace : PySem.W.kitOne K (.ref C_NoPlace) (.ref C_NoPlace) = some true) (D_law_asked : Dn P w K mg base (L2.CX P w) 8 "_law_asked" ["_law_which", "_law_lines", "_law_most"] (spAsked K C_NoLine C_NoKeep C_NoPlace)) : FnOkG P w K mg base CX0 9 f fd ["_law_which", "_law_lines", "_law_most", "_law_word", "_law_thing"] (spRefused K C_NoLine C_NoKeep C_NoPlace) := by
  refine Fun_okG F sc_law_refused (fun vs H Q E h => ?_) (fun cdv A outer s H vs Q E hr hA h => ?_)
  · obtain ⟨k, a, m, C, x, wd, dt, rfl, _⟩ := h
    rfl
  · obtain ⟨k, a, m, C, x, wd, dt, rfl, hk, hw, hS, s1, s2, s3, q⟩ := h
    refine ⟨_, (pss_cons (ps_set (i := 5) sc_law_refused.nd rfl (by first | exact Or.inl rfl | exact Or.inr rfl) pe_str)
      (pss_cons (ps_try_as (i := 6) rfl rfl sc_law_refused.nd rfl rfl ⟨rfl, by decide, .inl G_RoomError⟩ takes0 (fun W pn xe tk po => (pss_one (ps_expr (pe_cdS D_law_asked (hr.mono (by decide)) (by rfl) (fun σ => passAt tk σ) (pa_cons (pv 0) (pa_cons (pv 1) (pa_cons (pv 2) pa_nil))))))) (fun a oe cls d pn hz hf => (pss_cons (ps_if (pt_val (pe_callB (call_isX hz hf (K := K)) (by rfl) z_isinstance (by decide +kernel) (pa_cons (pv 6) (pa_cons (pe_gcl (by rfl) G_NoLine) pa_nil)))) (pss_one (ps_set (i := 5) sc_law_refused.nd rfl (by first | exact Or.inl rfl | exact Or.inr rfl) (pe_op op_add_str (pv 5) pe_str))) pss_nil)
      (pss_cons (ps_if (pt_val (pe_callB (call_isX hz hf (K := K)) (by rfl) z_isinstance (by decide +kernel) (pa_cons (pv 6) (pa_cons (pe_gcl (by rfl) G_NoKeep) pa_nil)))) (pss_one (ps_set (i := 5) sc_law_refused.nd rfl (by first | exact Or.inl rfl | exact Or.inr rfl) (pe_op op_add_str (pv 5) pe_str))) pss_nil)
      (pss_cons (ps_if (pt_val (pe_callB (call_isX hz hf (K := K)) (by rfl) z_isinstance (by decide +kernel) (pa_cons (pv 6) (pa_cons (pe_gcl (by rfl) G_NoPlace) pa_nil)))) (pss_one (ps_set (i := 5) sc_law_refused.nd rfl (by first | exact Or.inl rfl | exact Or.inr rfl) (pe_op op_add_str (pv 5) pe_str))) pss_nil)
      (pss_one (ps_if (pt_val (pe_callB (call_isXT hz hf (K := K)) (by rfl) z_isinstance (by decide +kernel) (pa_cons (pv 6) (pa_cons (pe_tup (pa_cons (pe_gcl (by rfl) G_NoLine) (pa_cons (pe_gcl (by rfl) G_NoKeep) (pa_cons (pe_gcl (by rfl) G_NoPlace) pa_nil)))) pa_nil)))) (pss_one (ps_ret (pe_and (pe_cmpR op_eq (pv 5) (pv 3) (nomark _)) (pe_and (pe_callB (call_isX hz hf (K := K)) (by rfl) z_isinstance (by decide +kernel) (pa_cons (pv 6) (pa_cons (pe_bltn (v := V.ty "ValueError") (u := Value.type "ValueError") (by rfl) z_ValueError (by decide +kernel) rfl) pa_nil))) (pe_one (pe_cmpR op_eq (pe_callB (call_repr hA hr.units (K := K)) (by rfl) z_repr (by decide +kernel) (pa_cons (pe_xfA hz hf (pv 6) (K := K)) pa_nil)) (pe_callB (call_repr hA hr.units (K := K)) (by rfl) z_repr (by decide +kernel) (pa_cons (pv 4) pa_nil)) (nomark _))))))) pss_nil)))))))
      (pss_one (ps_ret pe_bl)))), ?_⟩
    walk_at "rd"
    refine ⟨k, a, m, C, x, rfl, hk, fun xd H1 nx e1 h1 => ?_⟩
    walk_at "rd"
    have sh := fun H2 (z : Same H1 H2) => hS H2 (e1.trans z)
    rcases hw with ⟨rfl, rfl⟩ | ⟨rfl, rfl⟩ | ⟨rfl, rfl⟩
    · exact ⟨true, E_NoLine_RoomError, fun _ aa na => ⟨_, rfl, I_NoLine, ⟨_, h1⟩, _, .own _, true, Q_NoLine_NoLine, iteP rfl ⟨by decide +kernel, _, rfl, I_NoLine, ⟨_, h1⟩, _, .own _, false, Q_NoLine_NoKeep, iteN (by decide) ⟨_, rfl, I_NoLine, ⟨_, h1⟩, _, .own _, false, Q_NoLine_NoPlace, iteN (by decide) ⟨by decide, New.intro fun tp H2 np z2 h2 => ⟨_, _, _, h2, _, .cons (.own _) (.cons (.own _) (.cons (.own _) .nil)), rfl, I_NoLine, rfl, ⟨_, z2 _ _ h1⟩, true, (by simp only [PySem.W.kitAny, Q_NoLine_NoLine, Q_NoLine_NoKeep, Q_NoLine_NoPlace]), iteP rfl (iteP (by decide +kernel) ⟨_, rfl, I_NoLine, ⟨_, z2 _ _ h1⟩, _, .ty _, true, U_NoLine_ValueError, iteP rfl ⟨_, rfl, Y_NoLine, B_NoLine_found, _, z2 _ _ h1, _, lk0, dt, sh H2 z2, s1, s2, s3, dt, sh H2 z2, s1, s2, s3, by rw [decide_eq_true rfl]; exact q H2 (e1.trans z2)⟩⟩)⟩⟩⟩⟩⟩, fun h => by cases h⟩
    · exact ⟨true, E_NoKeep_RoomError, fun _ aa na => ⟨_, rfl, I_NoKeep, ⟨_, h1⟩, _, .own _, false, Q_NoKeep_NoLine, iteN (by decide) ⟨_, rfl, I_NoKeep, ⟨_, h1⟩, _, .own _, true, Q_NoKeep_NoKeep, iteP rfl ⟨by decide +kernel, _, rfl, I_NoKeep, ⟨_, h1⟩, _, .own _, false, Q_NoKeep_NoPlace, iteN (by decide) ⟨by decide, New.intro fun tp H2 np z2 h2 => ⟨_, _, _, h2, _, .cons (.own _) (.cons (.own _) (.cons (.own _) .nil)), rfl, I_NoKeep, rfl, ⟨_, z2 _ _ h1⟩, true, (by simp only [PySem.W.kitAny, Q_NoKeep_NoLine, Q_NoKeep_NoKeep, Q_NoKeep_NoPlace]), iteP rfl (iteP (by decide +kernel) ⟨_, rfl, I_NoKeep, ⟨_, z2 _ _ h1⟩, _, .ty _, true, U_NoKeep_ValueError, iteP rfl ⟨_, rfl, Y_NoKeep, B_NoKeep_found, _, z2 _ _ h1, _, lk0, dt, sh H2 z2, s1, s2, s3, dt, sh H2 z2, s1, s2, s3, by rw [decide_eq_true rfl]; exact q H2 (e1.trans z2)⟩⟩)⟩⟩⟩⟩⟩, fun h => by cases h⟩
    · exact ⟨true, E_NoPlace_RoomError, fun _ aa na => ⟨_, rfl, I_NoPlace, ⟨_, h1⟩, _, .own _, false, Q_NoPlace_NoLine, iteN (by decide) ⟨_, rfl, I_NoPlace, ⟨_, h1⟩, _, .own _, false, Q_NoPlace_NoKeep, iteN (by decide) ⟨_, rfl, I_NoPlace, ⟨_, h1⟩, _, .own _, true, Q_NoPlace_NoPlace, iteP rfl ⟨by decide +kernel, by decide, New.intro fun tp H2 np z2 h2 => ⟨_, _, _, h2, _, .cons (.own _) (.cons (.own _) (.cons (.own _) .nil)), rfl, I_NoPlace, rfl, ⟨_, z2 _ _ h1⟩, true, (by simp only [PySem.W.kitAny, Q_NoPlace_NoLine, Q_NoPlace_NoKeep, Q_NoPlace_NoPlace]), iteP rfl (iteP (by decide +kernel) ⟨_, rfl, I_NoPlace, ⟨_, z2 _ _ h1⟩, _, .ty _, true, U_NoPlace_ValueError, iteP rfl ⟨_, rfl, Y_NoPlace, B_NoPlace_found, _, z2 _ _ h1, _, lk0, dt, sh H2 z2, s1, s2, s3, dt, sh H2 z2, s1, s2, s3, by rw [decide_eq_true rfl]; exact q H2 (e1.trans z2)⟩⟩)⟩⟩⟩⟩⟩, fun h => by cases h⟩
theorem ok_bad {f : Addr} {fd : FuncData} (F : Fun K "_law_bad" "_law_bad" s_law_bad f fd) : FnOk P w K mg base CX0 1 f fd ["_law_draws"] (spBad K) := by
  refine F.ok sc_law_bad (fun vs H Q E h => ?_) (fun cdv A outer s H vs Q E hr h => ?_)
  · obtain ⟨a, ds, rfl, _⟩ := h
    rfl
  · obtain ⟨a, ds, rfl, hS, hD, q⟩ := h
    refine ⟨_, (pss_cons (ps_set (i := 1) sc_law_bad.nd rfl (by first | exact Or.inl rfl | exact Or.inr rfl) (pe_ix (ix_listK (K := K)) (pe_lst (pa_cons (pe_un un_neg pe_int) (pa_cons pe_bl (pa_cons pe_non (pa_cons pe_str (pa_cons (pe_lst (pa_cons pe_int pa_nil)) (pa_cons (pe_tup (pa_cons pe_int pa_nil)) (pa_cons pe_dnewK (pa_cons pe_bl pa_nil))))))))) (pe_ix (ix_listK (K := K)) (pv 0) pe_int (fun _ _ => rfl)) (fun _ _ => rfl)))
      (pss_cons (ps_set (i := 2) sc_law_bad.nd rfl (by first | exact Or.inl rfl | exact Or.inr rfl) (pe_ix (ix_listK (K := K)) (pe_lst (pa_cons pe_int (pa_cons pe_int (pa_cons (pe_un un_neg pe_int) (pa_cons pe_bl (pa_cons pe_non (pa_cons pe_str (pa_cons (pe_lst pa_nil) (pa_cons (pe_op op_pow pe_int pe_int) pa_nil))))))))) (pe_ix (ix_listK (K := K)) (pv 0) pe_int (fun _ _ => rfl)) (fun _ _ => rfl)))
      (pss_cons (ps_set (i := 3) sc_law_bad.nd rfl (by first | exact Or.inl rfl | exact Or.inr rfl) (pe_ix (ix_listK (K := K)) (pe_lst (pa_cons pe_int (pa_cons pe_int (pa_cons (pe_un un_neg pe_int) (pa_cons pe_bl (pa_cons pe_non (pa_cons pe_str (pa_cons (pe_tup (pa_cons pe_int pa_nil)) (pa_cons (pe_op op_pow pe_int pe_int) pa_nil))))))))) (pe_ix (ix_listK (K := K)) (pv 0) pe_int (fun _ _ => rfl)) (fun _ _ => rfl)))
      (pss_cons (ps_set (i := 4) sc_law_bad.nd rfl (by first | exact Or.inl rfl | exact Or.inr rfl) (pe_ix (ix_listK (K := K)) (pe_lst (pa_cons (pe_tup (pa_cons pe_int (pa_cons pe_int (pa_cons pe_int pa_nil)))) (pa_cons (pe_tup (pa_cons (pe_un un_neg pe_int) (pa_cons pe_int (pa_cons pe_int pa_nil)))) (pa_cons (pe_tup (pa_cons pe_int (pa_cons pe_int (pa_cons pe_int pa_nil)))) (pa_cons (pe_tup (pa_cons pe_int (pa_cons pe_int (pa_cons pe_int pa_nil)))) (pa_cons (pe_tup (pa_cons pe_int (pa_cons pe_int (pa_cons pe_int pa_nil)))) (pa_cons (pe_tup (pa_cons pe_int (pa_cons pe_int (pa_cons pe_int pa_nil)))) (pa_cons (pe_lst (pa_cons pe_int (pa_cons pe_int (pa_cons pe_int pa_nil)))) (pa_cons (pe_tup (pa_cons pe_int (pa_cons pe_int pa_nil))) (pa_cons (pe_tup (pa_cons pe_bl (pa_cons pe_int (pa_cons pe_int pa_nil)))) (pa_cons pe_non pa_nil))))))))))) (pe_ix (ix_listK (K := K)) (pv 0) pe_int (fun _ _ => rfl)) (fun _ _ => rfl)))
      (pss_one (ps_ret (pe_tup (pa_cons (pv 1) (pa_cons (pv 2) (pa_cons (pv 3) (pa_cons (pv 4) pa_nil))))))))))), ?_⟩
    walk_at "rd"
    obtain ⟨v0, a0, b0, c0⟩ := Drawn.pick hD (k := 0) (by decide) rfl
    obtain ⟨v1, a1, b1, c1⟩ := Drawn.pick hD (k := 1) (by decide) rfl
    obtain ⟨v2, a2, b2, c2⟩ := Drawn.pick hD (k := 2) (by decide) rfl
    obtain ⟨v3, a3, b3, c3⟩ := Drawn.pick hD (k := 3) (by decide) rfl
    refine ⟨by decide, New.intro fun u1 G1 n1 t1 g1 => ⟨by decide, New.intro fun u2 G2 n2 t2 g2 => New.intro fun u3 G3 n3 t3 g3 => ⟨by decide, New.intro fun u4 G4 n4 t4 g4 => ?_⟩⟩⟩
    have s4 : Same H G4 := t1.trans (t2.trans (t3.trans t4))
    obtain ⟨l, al, tl, ll⟩ : ∃ l, atI [V.int (-1), V.bl true, V.non, V.str (Str.ofString "0"), V.ref u1, V.ref u2, V.ref u3, V.bl false] v0 = some l ∧ Tg K G4 l ∧ lineOk l = false := by
      have : v0 = 0 ∨ v0 = 1 ∨ v0 = 2 ∨ v0 = 3 ∨ v0 = 4 ∨ v0 = 5 ∨ v0 = 6 ∨ v0 = 7 := by omega
      rcases this with rfl | rfl | rfl | rfl | rfl | rfl | rfl | rfl
      · exact ⟨_, rfl, tg_int (by decide +kernel), rfl⟩
      · exact ⟨_, rfl, tg_bl (by decide +kernel), rfl⟩
      · exact ⟨_, rfl, tg_non, rfl⟩
      · exact ⟨_, rfl, tg_str (by decide +kernel), rfl⟩
      · exact ⟨_, rfl, tg_lst (t4 _ _ (t3 _ _ (t2 _ _ g1))) rfl rfl (by decide +kernel), rfl⟩
      · exact ⟨_, rfl, tg_tup (t4 _ _ (t3 _ _ g2)) rfl rfl (by decide +kernel), rfl⟩
      · exact ⟨_, rfl, tg_dk (t4 _ _ g3), rfl⟩
      · exact ⟨_, rfl, tg_bl (by decide +kernel), rfl⟩
    refine ⟨_, s4.seq hS, _, a0, _, v0, rfl, seq_of g4, l, al, by decide, New.intro fun u5 G5 n5 t5 g5 => ⟨⟨by decide, by decide, by decide⟩, by decide, New.intro fun u6 G6 n6 t6 g6 => ?_⟩⟩
    have s6 : Same H G6 := s4.trans (t5.trans t6)
    obtain ⟨b, ab, tb, lb⟩ : ∃ l, atI [V.int 0, V.int 33, V.int (-1), V.bl true, V.non, V.str (Str.ofString "1"), V.ref u5, V.int (10 ^ Int.toNat 20)] v1 = some l ∧ Tg K G6 l ∧ isIn l 1 32 = false := by
      have : v1 = 0 ∨ v1 = 1 ∨ v1 = 2 ∨ v1 = 3 ∨ v1 = 4 ∨ v1 = 5 ∨ v1 = 6 ∨ v1 = 7 := by omega
      rcases this with rfl | rfl | rfl | rfl | rfl | rfl | rfl | rfl
      · exact ⟨_, rfl, tg_int (by decide +kernel), rfl⟩
      · exact ⟨_, rfl, tg_int (by decide +kernel), rfl⟩
      · exact ⟨_, rfl, tg_int (by decide +kernel), rfl⟩
      · exact ⟨_, rfl, tg_bl (by decide +kernel), rfl⟩
      · exact ⟨_, rfl, tg_non, rfl⟩
      · exact ⟨_, rfl, tg_str (by decide +kernel), rfl⟩
      · exact ⟨_, rfl, tg_lst (t6 _ _ g5) rfl rfl (by decide +kernel), rfl⟩
      · exact ⟨_, rfl, tg_int (by decide +kernel), by decide +kernel⟩
    refine ⟨_, s6.seq hS, _, a1, _, v1, rfl, seq_of g6, b, ab, by decide, New.intro fun u7 G7 n7 t7 g7 => ⟨⟨by decide, by decide, by decide⟩, by decide, New.intro fun u8 G8 n8 t8 g8 => ?_⟩⟩
    have s8 : Same H G8 := s6.trans (t7.trans t8)
    obtain ⟨wd, aw, tw, lw⟩ : ∃ l, atI [V.int 0, V.int 65, V.int (-4), V.bl true, V.non, V.str (Str.ofString "4"), V.ref u7, V.int (10 ^ Int.toNat 20)] v2 = some l ∧ Tg K G8 l ∧ isIn l 1 64 = false := by
      have : v2 = 0 ∨ v2 = 1 ∨ v2 = 2 ∨ v2 = 3 ∨ v2 = 4 ∨ v2 = 5 ∨ v2 = 6 ∨ v2 = 7 := by omega
      rcases this with rfl | rfl | rfl | rfl | rfl | rfl | rfl | rfl
      · exact ⟨_, rfl, tg_int (by decide +kernel), rfl⟩
      · exact ⟨_, rfl, tg_int (by decide +kernel), rfl⟩
      · exact ⟨_, rfl, tg_int (by decide +kernel), rfl⟩
      · exact ⟨_, rfl, tg_bl (by decide +kernel), rfl⟩
      · exact ⟨_, rfl, tg_non, rfl⟩
      · exact ⟨_, rfl, tg_str (by decide +kernel), rfl⟩
      · exact ⟨_, rfl, tg_tup (t8 _ _ g7) rfl rfl (by decide +kernel), rfl⟩
      · exact ⟨_, rfl, tg_int (by decide +kernel), by decide +kernel⟩
    refine ⟨_, s8.seq hS, _, a2, _, v2, rfl, seq_of g8, wd, aw, ?_⟩
    refine ⟨by decide, New.intro fun p0 L0 m0 r0 q0 => ⟨by decide, New.intro fun p1 L1 m1 r1 q1 => ⟨by decide, New.intro fun p2 L2 m2 r2 q2 => ⟨by decide, New.intro fun p3 L3 m3 r3 q3 => ⟨by decide, New.intro fun p4 L4 m4 r4 q4 => ⟨by decide, New.intro fun p5 L5 m5 r5 q5 => ⟨by decide, New.intro fun p6 L6 m6 r6 q6 => ⟨by decide, New.intro fun p7 L7 m7 r7 q7 => ⟨by decide, New.intro fun p8 L8 m8 r8 q8 => ⟨by decide, New.intro fun p9 L9 m9 r9 q9 => ?_⟩⟩⟩⟩⟩⟩⟩⟩⟩⟩
    have z0 := (r9 _ _ (r8 _ _ (r7 _ _ (r6 _ _ (r5 _ _ (r4 _ _ (r3 _ _ (r2 _ _ (r1 _ _ q0)))))))))
    have z1 := (r9 _ _ (r8 _ _ (r7 _ _ (r6 _ _ (r5 _ _ (r4 _ _ (r3 _ _ (r2 _ _ q1))))))))
    have z2 := (r9 _ _ (r8 _ _ (r7 _ _ (r6 _ _ (r5 _ _ (r4 _ _ (r3 _ _ q2)))))))
    have z3 := (r9 _ _ (r8 _ _ (r7 _ _ (r6 _ _ (r5 _ _ (r4 _ _ q3))))))
    have z4 := (r9 _ _ (r8 _ _ (r7 _ _ (r6 _ _ (r5 _ _ q4)))))
    have z5 := (r9 _ _ (r8 _ _ (r7 _ _ (r6 _ _ q5))))
    have z6 := (r9 _ _ (r8 _ _ (r7 _ _ q6)))
    have z7 := (r9 _ _ (r8 _ _ q7))
    have z8 := (r9 _ _ q8)
    have s9 : Same G8 L9 := (r0.trans (r1.trans (r2.trans (r3.trans (r4.trans (r5.trans (r6.trans (r7.trans (r8.trans r9)))))))))
    obtain ⟨c, ac, tc, lc⟩ : ∃ l, atI [V.ref p0, V.ref p1, V.ref p2, V.ref p3, V.ref p4, V.ref p5, V.ref p6, V.ref p7, V.ref p8, V.non] v3 = some l ∧ Tg K L9 l ∧ PlaceTh K L9 l false := by
      have : v3 = 0 ∨ v3 = 1 ∨ v3 = 2 ∨ v3 = 3 ∨ v3 = 4 ∨ v3 = 5 ∨ v3 = 6 ∨ v3 = 7 ∨ v3 = 8 ∨ v3 = 9 := by omega
      rcases this with rfl | rfl | rfl | rfl | rfl | rfl | rfl | rfl | rfl | rfl
      · exact ⟨_, rfl, tg_tup z0 rfl rfl (by decide +kernel), pl_tup z0 rfl (by decide)⟩
      · exact ⟨_, rfl, tg_tup z1 rfl rfl (by decide +kernel), pl_tup z1 rfl (by decide)⟩
      · exact ⟨_, rfl, tg_tup z2 rfl rfl (by decide +kernel), pl_tup z2 rfl (by decide)⟩
      · exact ⟨_, rfl, tg_tup z3 rfl rfl (by decide +kernel), pl_tup z3 rfl (by decide)⟩
      · exact ⟨_, rfl, tg_tup z4 rfl rfl (by decide +kernel), pl_tup z4 rfl (by decide)⟩
      · exact ⟨_, rfl, tg_tup z5 rfl rfl (by decide +kernel), pl_tup z5 rfl (by decide)⟩
      · exact ⟨_, rfl, tg_lst z6 rfl rfl (by decide +kernel), .inl ⟨_, .lst (seq_of z6), by decide, rfl⟩⟩
      · exact ⟨_, rfl, tg_tup z7 rfl rfl (by decide +kernel), pl_tup z7 rfl (by decide)⟩
      · exact ⟨_, rfl, tg_tup z8 rfl rfl (by decide +kernel), pl_tup z8 rfl (by decide)⟩
      · exact ⟨_, rfl, tg_non, .inl ⟨_, .non, by decide, rfl⟩⟩
    refine ⟨_, (s8.trans s9).seq hS, _, a3, _, v3, rfl, seq_of q9, c, ac, by decide, New.intro fun p HZ np tz gz => ?_⟩
    have e8 : Same G8 HZ := s9.trans tz
    have e6 : Same G6 HZ := (t7.trans t8).trans e8
    have e4 : Same G4 HZ := (t5.trans t6).trans e6
    exact q p HZ l b wd c ((s8.trans s9).free np) (s8.trans e8) gz (tl.same e4) ll (tb.same e6) lb (tw.same e8) lw (tc.same tz) (lc.same tz)
theorem ok_held {f C_NoLine C_NoKeep C_NoPlace : Addr} {fd : FuncData} (F : Fun K "_law_held" "_law_held" s_law_held f fd) (z_range : mg "range" = none) (D_law_bad : Dn P w K mg base CX0 1 "_law_bad" ["_law_draws"] (spBad K)) (D_law_refused : DnG P w K mg base CX0 9 "_law_refused" ["_law_which", "_law_lines", "_law_most", "_law_word", "_law_thing"] (spRefused K C_NoLine C_NoKeep C_NoPlace)) : FnOkG P w K mg base CX0 10 f fd ["_law_draws"] (spOn K) := by
  refine Fun_okG F sc_law_held (fun vs H Q E h => ?_) (fun cdv A outer s H vs Q E hr hA h => ?_)
  · obtain ⟨a, ds, rfl, _⟩ := h
    rfl
  · obtain ⟨a, ds, rfl, hS, hD, q⟩ := h
    refine ⟨_, (pss_cons (ps_asg (pe_cd D_law_bad (hr.mono (by decide)) (by rfl) pass0 (pa_cons (pv 0) pa_nil)) (pg_tup rfl (pgs_cons (pg_name (i := 1) sc_law_held.nd rfl (by first | exact Or.inl rfl | exact Or.inr rfl)) (pgs_cons (pg_name (i := 2) sc_law_held.nd rfl (by first | exact Or.inl rfl | exact Or.inr rfl)) (pgs_cons (pg_name (i := 3) sc_law_held.nd rfl (by first | exact Or.inl rfl | exact Or.inr rfl)) (pgs_cons (pg_name (i := 4) sc_law_held.nd rfl (by first | exact Or.inl rfl | exact Or.inr rfl)) pgs_nil))))))
      (pss_cons (ps_setLc (i := 5) (own := [("_law_k", 6)]) (g := gName 6) (tt := tYes) rfl sc_law_held.nd rfl rfl (sw_true rfl rfl rfl (by decide +kernel)) (pi_rangeL1 (by rfl) z_range (pa_cons (pe_ix (ix_listK (K := K)) (pv 0) pe_int (fun _ _ => rfl)) pa_nil)) (blkOk_by (own := [("_law_k", 6)]) (N := ["_law_draws", "_law_line", "_law_bound", "_law_wide", "_law_place", "_law_lines", "_law_k", "_law_bad_here", "_law_which", "_law_good", "_law_rows"]) (sc := defScope s_law_held) (by decide +kernel)) (fun _ _ _ _ _ => pg_name (i := 6) sc_law_held.nd rfl (Or.inl rfl)) (fun _ _ _ _ _ => pts_nil) (fun _ _ _ _ _ => (pe_op op_modN (pv 6) pe_int)))
      (pss_cons (ps_set (i := 7) sc_law_held.nd rfl (by first | exact Or.inl rfl | exact Or.inr rfl) (pe_op (op_catS (K := K)) (pe_op (op_catS (K := K)) (pe_op (op_catS (K := K)) (pv 5) (pe_lst (pa_cons (pv 1) pa_nil))) (pe_slice (sl_listK (K := K)) (pv 5) po_none (po_some (pe_ix (ix_listK (K := K)) (pv 0) pe_int (fun _ _ => rfl))))) (pe_lst (pa_cons pe_non pa_nil))))
      (pss_cons (ps_for PassesOwn.never rfl (pi_rangeL1 (by rfl) z_range (pa_cons pe_int pa_nil)) (pg_name (i := 8) sc_law_held.nd rfl (by first | exact Or.inl rfl | exact Or.inr rfl)) (pss_cons (ps_if (PW.pt (pw_or (pt_not (pt_val (pe_cdG D_law_refused hA (hr.mono (by decide)) (by rfl) pass0 (pa_cons (pv 8) (pa_cons (pv 7) (pa_cons (pv 2) (pa_cons pe_str (pa_cons (pv 1) pa_nil)))))))) (pw_or1 (pt_not (pt_val (pe_cdG D_law_refused hA (hr.mono (by decide)) (by rfl) pass0 (pa_cons (pv 8) (pa_cons (pv 7) (pa_cons pe_int (pa_cons pe_str (pa_cons (pv 1) pa_nil))))))))))) (pss_one (ps_ret pe_bl)) pss_nil)
      (pss_one (ps_if (PW.pt (pw_or (pt_not (pt_val (pe_cdG D_law_refused hA (hr.mono (by decide)) (by rfl) pass0 (pa_cons (pv 8) (pa_cons (pv 5) (pa_cons (pv 2) (pa_cons pe_str (pa_cons (pv 2) pa_nil)))))))) (pw_or1 (pt_not (pt_val (pe_cdG D_law_refused hA (hr.mono (by decide)) (by rfl) pass0 (pa_cons (pv 8) (pa_cons (pe_lst pa_nil) (pa_cons (pv 2) (pa_cons pe_str (pa_cons (pv 2) pa_nil))))))))))) (pss_one (ps_ret pe_bl)) pss_nil))))
      (pss_cons (ps_if (PW.pt (pw_or (pt_not (pt_val (pe_cdG D_law_refused hA (hr.mono (by decide)) (by rfl) pass0 (pa_cons pe_int (pa_cons (pv 7) (pa_cons pe_int (pa_cons pe_str (pa_cons (pv 1) pa_nil)))))))) (pw_or1 (pt_not (pt_val (pe_cdG D_law_refused hA (hr.mono (by decide)) (by rfl) pass0 (pa_cons pe_int (pa_cons (pe_lst pa_nil) (pa_cons (pv 2) (pa_cons pe_str (pa_cons (pv 2) pa_nil))))))))))) (pss_one (ps_ret pe_bl)) pss_nil)
      (pss_cons (ps_setLc (i := 9) (own := [("_law_k", 6)]) (g := gName 6) (tt := tYes) rfl sc_law_held.nd rfl rfl (sw_true rfl rfl rfl (by decide +kernel)) (pi_rangeL1 (by rfl) z_range (pa_cons (pe_ix (ix_listK (K := K)) (pv 0) pe_int (fun _ _ => rfl)) pa_nil)) (blkOk_by (own := [("_law_k", 6)]) (N := ["_law_draws", "_law_line", "_law_bound", "_law_wide", "_law_place", "_law_lines", "_law_k", "_law_bad_here", "_law_which", "_law_good", "_law_rows"]) (sc := defScope s_law_held) (by decide +kernel)) (fun _ _ _ _ _ => pg_name (i := 6) sc_law_held.nd rfl (Or.inl rfl)) (fun _ _ _ _ _ => pts_nil) (fun _ _ _ _ _ => (pe_tup (pa_cons (pv 6) (pa_cons pe_int (pa_cons (pe_op op_add (pe_op op_mul pe_int (pv 6)) pe_int) pa_nil))))))
      (pss_cons (ps_for PassesOwn.never rfl (pi_listK (pe_lst (pa_cons (pe_op (op_catS (K := K)) (pv 9) (pe_lst (pa_cons (pv 4) (pa_cons pe_non pa_nil)))) (pa_cons (pe_lst (pa_cons (pv 4) pa_nil)) (pa_cons (pe_lst pa_nil) pa_nil)))) (K := K)) (pg_name (i := 10) sc_law_held.nd rfl (by first | exact Or.inl rfl | exact Or.inr rfl)) (pss_cons (ps_if (pt_not (pt_val (pe_cdG D_law_refused hA (hr.mono (by decide)) (by rfl) pass0 (pa_cons pe_int (pa_cons (pv 10) (pa_cons (pv 3) (pa_cons pe_str (pa_cons (pv 3) pa_nil)))))))) (pss_one (ps_ret pe_bl)) pss_nil)
      (pss_one (ps_if (PW.pt (pw_and (pt_cmpR (op_neL hr.units (K := K)) (pv 10) (pe_lst pa_nil) (nomark _)) (pw_and1 (pt_not (pt_val (pe_cdG D_law_refused hA (hr.mono (by decide)) (by rfl) pass0 (pa_cons pe_int (pa_cons (pv 10) (pa_cons (pe_op op_add pe_int (pe_ix (ix_listK (K := K)) (pv 0) pe_int (fun _ _ => rfl))) (pa_cons pe_str (pa_cons (pv 4) pa_nil))))))))))) (pss_one (ps_ret pe_bl)) pss_nil))))
      (pss_one (ps_ret pe_bl))))))))), ?_⟩
    walk_at "rd"
    obtain ⟨v4, a4, b4, c4⟩ := Drawn.pick hD (k := 4) (by decide) rfl
    obtain ⟨v5, a5, b5, c5⟩ := Drawn.pick hD (k := 5) (by decide) rfl
    obtain ⟨v6, a6, b6, c6⟩ := Drawn.pick hD (k := 6) (by decide) rfl
    refine ⟨a, ds, rfl, hS, hD, fun tb H1 l b w c nt s1 g1 tl ll tbd lb tw lw tc lc => ?_⟩
    refine ⟨tb, rfl, _, seqT_of g1, rfl, _, _, rfl, _, _, rfl, _, _, rfl, _, _, rfl, rfl, _, s1.seq hS, _, a4, v4, rfl, ?_⟩
    refine Cmp.pureR (fun k => .int ((0 + (k : Int)).fmod 3)) (by omega) (fun _ => rfl) (fun k H2 R hk s2 r => ?_) (fun u1 H2 m1 s2 g2 => ?_)
    · walk_at "rd"
      exact ⟨by decide, r H2 (Same.refl H2)⟩
    obtain ⟨ns, en, nn, nl⟩ : ∃ ns : List Int, (List.range v4.toNat).map (fun (k : Nat) => V.int ((0 + (k : Int)).fmod 3)) = ns.map V.int ∧ (∀ n ∈ ns, (0 : Int) ≤ n) ∧ ns.length ≤ 7 := by
      refine ⟨(List.range v4.toNat).map fun (k : Nat) => (0 + (k : Int)).fmod 3, by rw [List.map_map]; rfl, fun n hn => ?_, by rw [List.length_map, List.length_range]; omega⟩
      obtain ⟨k, _, rfl⟩ := List.mem_map.mp hn
      exact Int.fmod_nonneg_of_pos _ (by decide)
    rw [en] at g2
    refine ⟨by decide, New.intro fun u2 H3 m2 s3 g3 => ⟨u1, rfl, _, seq_of (s3 _ _ g2), _, seq_of g3, by rw [List.length_map]; exact sz100 (by rw [List.length_singleton]; omega), New.intro fun u3 H4 m3 s4 g4 => ?_⟩⟩
    refine ⟨_, (s1.trans (s2.trans (s3.trans s4))).seq hS, _, a5, v5, rfl, u1, rfl, _, seq_of (s4 _ _ (s3 _ _ g2)), New.intro fun u4 H5 m4 s5 g5 => ?_⟩
    obtain ⟨n5, rfl⟩ : ∃ n5 : Nat, v5 = (n5 : Int) := ⟨v5.toNat, by omega⟩
    rw [cut_to] at g5
    refine ⟨_, seq_of (s5 _ _ g4), _, seq_of g5, by rw [List.length_append, List.length_map, List.length_take, List.length_map]; exact sz100 (by rw [List.length_singleton]; omega), New.intro fun u5 H6 m5 s6 g6 => ⟨by decide, New.intro fun u6 H7 m6 s7 g7 => ⟨_, seq_of (s7 _ _ g6), _, seq_of g7, ?_, New.intro fun u7 H8 m7 s8 g8 => ?_⟩⟩⟩
    · rw [List.length_append, List.length_append, List.length_map, List.length_take, List.length_map]
      exact sz100 (by simp; omega)
    have S8 : Same H1 H8 := s2.trans (s3.trans (s4.trans (s5.trans (s6.trans (s7.trans s8)))))
    have bad8 : LinesBad K H8 u7 l := by
      obtain ⟨⟨T, t⟩, _⟩ := tl.same S8
      refine ⟨ns, (ns.map V.int).take n5 ++ [V.non], _, T, seq_of g8, ?_, nn, t, ll⟩
      simp
    have good8 : LinesGood K H8 u1 := ⟨ns, seq_of (s8 _ _ (s7 _ _ (s6 _ _ (s5 _ _ (s4 _ _ (s3 _ _ g2)))))), nn, by omega⟩
    have lbS : ∀ {H2 : Hp}, Same H8 H2 → LinesBad K H2 u7 l := fun z => let ⟨pre, post, xs, T, h1, h2, h3, h4, h5⟩ := bad8; ⟨pre, post, xs, T, z.seq h1, h2, h3, h4.same z, h5⟩
    have lgS : ∀ {H2 : Hp}, Same H8 H2 → LinesGood K H2 u1 := fun z => let ⟨ns, h1, h2, h3⟩ := good8; ⟨ns, z.seq h1, h2, h3⟩
    have mb : ∀ {H2 : Hp}, Same H1 H2 → MBad K H2 b 32 := fun z => let ⟨⟨T, t⟩, _⟩ := tbd.same z; ⟨T, t, lb⟩
    have mw : ∀ {H2 : Hp}, Same H1 H2 → MBad K H2 w 64 := fun z => let ⟨⟨T, t⟩, _⟩ := tw.same z; ⟨T, t, lw⟩
    have rf : ∀ {H2 : Hp} {R : VK} {k : Int} {a : Addr} {m x : V} {C : Addr} {wd : Str}, Ask K H2 C_NoLine C_NoKeep C_NoPlace k a m C x → ((C = C_NoLine ∧ wd = "line") ∨ (C = C_NoKeep ∧ wd = "keep") ∨ (C = C_NoPlace ∧ wd = "place")) → Tg K H2 x → (∀ H3, Same H2 H3 → R (.bl true) H3) → spRefused K C_NoLine C_NoKeep C_NoPlace [.int k, .ref a, m, .str wd, x] H2 R E0 :=
      fun hk hw ht r => let ⟨_, dt, h1, h2, h3, h4⟩ := ht; ⟨_, _, _, _, _, _, dt, rfl, hk, hw, h1, h2, h3, h4, r⟩
    refine Loop.range (fun i σ HA => ∃ (y8 : Option V), σ = [some (.ref a), some l, some b, some w, some c, some (.ref u1), none, some (.ref u7), y8, none, none] ∧ Same H8 HA) ⟨_, rfl, Same.refl _⟩ ?_ ?_
    · rintro i σ HA hi ⟨y8, rfl, sA⟩
      walk_at "rd"
      have hi4 : i < 4 := hi
      have hk : (0 + (i : Int)) = 0 ∨ (0 + (i : Int)) = 1 ∨ (0 + (i : Int)) = 2 ∨ (0 + (i : Int)) = 3 := by omega
      have hk5 : (0 + (i : Int)) = 0 ∨ (0 + (i : Int)) = 1 ∨ (0 + (i : Int)) = 2 ∨ (0 + (i : Int)) = 3 ∨ (0 + (i : Int)) = 5 := by omega
      have SA := S8.trans sA
      refine rf (.line hk5 (lbS sA)) (.inl ⟨rfl, rfl⟩) (tl.same SA) fun HB sB => ⟨true, rfl, iteN (by decide) ?_⟩
      have SB := SA.trans sB
      refine rf (.line hk5 (lbS (sA.trans sB))) (.inl ⟨rfl, rfl⟩) (tl.same SB) fun HC sC => ⟨true, rfl, iteN (by decide) ?_⟩
      have SC := SB.trans sC
      refine rf (.keep hk (lgS (sA.trans (sB.trans sC))) (mb SC)) (.inr (.inl ⟨rfl, rfl⟩)) (tbd.same SC) fun HD sD => ⟨true, rfl, iteN (by decide) ?_⟩
      have SD := SC.trans sD
      refine ⟨by decide, New.intro fun x0 HE n0 sE gE => ?_⟩
      refine rf (.keep hk ⟨[], seq_of gE, fun n h => (nomatch h), by decide⟩ (mb (SD.trans sE))) (.inr (.inl ⟨rfl, rfl⟩)) (tbd.same (SD.trans sE)) fun HF sF => ⟨true, rfl, iteN (by decide) ?_⟩
      exact sA.trans (sB.trans (sC.trans (sD.trans (sE.trans sF))))
    · rintro σ HA ⟨y8, rfl, sA⟩
      walk_at "rd"
      have SA := S8.trans sA
      refine rf (.line (.inr (.inr (.inr (.inr rfl)))) (lbS sA)) (.inl ⟨rfl, rfl⟩) (tl.same SA) fun HB sB => ⟨true, rfl, iteN (by decide) ?_⟩
      have SB := SA.trans sB
      refine ⟨by decide, New.intro fun x0 HC n0 sC gC => ?_⟩
      have SC := SB.trans sC
      refine rf (.kept (mb SC)) (.inr (.inl ⟨rfl, rfl⟩)) (tbd.same SC) fun HD sD => ⟨true, rfl, iteN (by decide) ?_⟩
      have SD := SC.trans sD
      refine ⟨_, (s1.trans SD).seq hS, _, a4, v4, rfl, ?_⟩
      refine Cmp.range (fun D i acc HE => HD D = none ∧ Same HD HE ∧ HE D = some (.lst acc) ∧ Tups K HE acc ((List.range i).map fun (k : Nat) => [V.int (0 + (k : Int)), V.int 0, V.int (8 * (0 + (k : Int)) + 8)])) (fun D HE nD sE hE => ⟨nD, sE, hE, .nil⟩) ?_ ?_
      · rintro D i acc HE Nx hi ha ⟨nD, sE, hE, TE⟩ hN
        walk_at "rd"
        refine ⟨.inl ⟨by decide, by decide⟩, by decide, New.intro fun u HF nu sF hF => ⟨acc, sF _ _ hE, sz100l (by omega), hN _ _ (by rw [List.length_append, List.length_singleton]; omega) ⟨nD, Same.off (sE.trans sF) nD Off.upd, upd_same, ?_⟩⟩⟩
        rw [List.range_succ, List.map_append]
        exact Tups.off (Tups.append (TE.same sF) (.cons ⟨u, rfl, seqT_of hF⟩ .nil)) Off.upd (sF _ _ hE)
      · rintro D acc HE ha ⟨nD, sE, hE, TE⟩
        have la : acc.length = v4.toNat := by
          have := TE.len
          rw [this, List.length_map, List.length_range]
        refine ⟨by decide, New.intro fun y1 K1 r1 z1 q1 => ⟨D, rfl, _, seq_of (z1 _ _ hE), _, seq_of q1, by simp; exact sz100 (by omega), New.intro fun y2 K2 r2 z2 q2 => ⟨by decide, New.intro fun y3 K3 r3 z3 q3 => ⟨by decide, New.intro fun y4 K4 r4 z4 q4 => ⟨by decide, New.intro fun y5 K5 r5 z5 q5 => ?_⟩⟩⟩⟩⟩
        have SE : Same H1 HE := SD.trans sE
        have Z3 : Same HE K3 := z1.trans (z2.trans z3)
        have Z5 : Same HE K5 := Z3.trans (z4.trans z5)
        have h2K := z5 _ _ (z4 _ _ (z3 _ _ q2))
        have h3K := z5 _ _ (z4 _ _ q3)
        have h4K := z5 _ _ q4
        have okG : ∀ d ∈ (List.range v4.toNat).map fun (k : Nat) => [V.int (0 + (k : Int)), V.int 0, V.int (8 * (0 + (k : Int)) + 8)], okD d := by
          intro d hd
          obtain ⟨k, hk, rfl⟩ := List.mem_map.mp hd
          have hk2 := List.mem_range.mp hk
          refine ⟨_, _, _, rfl, ?_⟩
          unfold okP
          rw [decide_eq_true (show (0 : Int) ≤ 0 + (k : Int) by omega), Bool.true_and, if_neg (by omega), decide_eq_true (show (0 : Int) = 0 by rfl), decide_eq_true (show (8 : Int) ≤ 8 * (0 + (k : Int)) + 8 by omega), decide_eq_true (show 8 * (0 + (k : Int)) + 8 ≤ 512 by omega), decide_eq_true (show (8 * (0 + (k : Int)) + 8) % 8 = 0 by omega)]
          rfl
        have cK := lc.same (SE.trans Z5)
        have hh : ∀ (i : Nat) (x : V), [V.ref y2, V.ref y3, V.ref y4][i]? = some x → ∃ (r : Addr) (xs : List V), x = V.ref r ∧ SqL K K5 r xs ∧ ((xs ≠ [] ∧ PlacesBad K K5 r c) ∨ xs = []) := by
          intro i x hx
          have hm := List.mem_of_getElem? hx
          simp only [List.mem_cons, List.not_mem_nil, or_false] at hm
          rcases hm with rfl | rfl | rfl
          · exact ⟨_, _, rfl, seq_of h2K, .inl ⟨by simp, acc, [V.non], _, _, seq_of h2K, rfl, TE.same Z5, okG, cK, by omega⟩⟩
          · exact ⟨_, _, rfl, seq_of h3K, .inl ⟨by simp, [], [], _, [], seq_of h3K, rfl, .nil, fun d h => (nomatch h), cK, by decide⟩⟩
          · exact ⟨_, _, rfl, seq_of h4K, .inr rfl⟩
        refine ⟨⟨_, seq_of q5⟩, Loop.list (xs := [V.ref y2, V.ref y3, V.ref y4]) (fun i σ HF => ∃ (x10 : Option V), σ = [some (.ref a), some l, some b, some w, some c, some (.ref u1), none, some (.ref u7), y8, some (.ref D), x10] ∧ Same K5 HF) ⟨_, rfl, Same.refl _⟩ ?_ ?_ ?_⟩
        · rintro i σ HF _ ⟨x10, rfl, sF⟩
          exact sF.seq (seq_of q5)
        · rintro i x σ HF hx ⟨x10, rfl, sF⟩
          obtain ⟨r, xs, rfl, hr', hp⟩ := hh i x hx
          walk_at "rd"
          have SF : Same H1 HF := (SE.trans Z5).trans sF
          refine rf (.wide (mw SF) ⟨_, sF.seq hr'⟩) (.inl ⟨rfl, rfl⟩) (tw.same SF) fun HG sG => ⟨true, rfl, iteN (by decide) ?_⟩
          have SG := SF.trans sG
          refine ⟨by decide, New.intro fun x0 HI n0 sI gI => ?_⟩
          have SI := SG.trans sI
          rcases hp with ⟨nx, pre, post, xs', ds', h1, h2, h3, h4, h5, h6⟩ | rfl
          · refine ⟨xs, (sF.trans (sG.trans sI)).seq hr', [], seq_of gI, .inl ⟨fun e => nx (List.length_eq_zero_iff.mp e), _, (s1.trans SI).seq hS, _, a6, v6, rfl, ?_⟩⟩
            refine rf (.place (by omega) (by omega) ⟨pre, post, xs', ds', (sF.trans (sG.trans sI)).seq h1, h2, h3.same (sF.trans (sG.trans sI)), h4, h5.same (sF.trans (sG.trans sI)), h6⟩) (.inr (.inr ⟨rfl, rfl⟩)) (tc.same SI) fun HJ sJ => ⟨true, rfl, iteN (by decide) ?_⟩
            exact sF.trans (sG.trans (sI.trans sJ))
          · refine ⟨[], (sF.trans (sG.trans sI)).seq hr', [], seq_of gI, .inr ⟨rfl, rfl, ?_⟩⟩
            exact sF.trans (sG.trans sI)
        · rintro σ HF ⟨x10, rfl, sF⟩
          walk_at "rd"
          exact q HF (s1.trans ((SE.trans Z5).trans sF))
theorem ok_between {f : Addr} {fd : FuncData} (F : Fun K "looks_between" "looks_between" s_looks_between f fd) (z_zip : mg "zip" = none) : FnOk P w K mg base CX0 1 f fd ["rows", "places", "first", "last"] (spBetween K) := by
  refine F.ok sc_looks_between (fun vs H Q E h => ?_) (fun cdv A outer s H vs Q E hr h => ?_)
  · obtain ⟨a, b, ns, ps, ds, f, l, G, rfl, _⟩ := h
    rfl
  · obtain ⟨a, b, ns, ps, ds, f, l, G, rfl, hS, hb, hn, hL, hP, q⟩ := h
    refine ⟨_, (pss_cons (ps_set (i := 4) sc_looks_between.nd rfl (by first | exact Or.inl rfl | exact Or.inr rfl) (pe_lst pa_nil))
      (pss_cons (ps_for PassesOwn.never rfl (pi_zipK (by rfl) z_zip (pa_cons (pv 0) (pa_cons (pv 1) pa_nil)) (K := K)) (pg_tup rfl (pgs_cons (pg_name (i := 5) sc_looks_between.nd rfl (by first | exact Or.inl rfl | exact Or.inr rfl)) (pgs_cons (pg_name (i := 6) sc_looks_between.nd rfl (by first | exact Or.inl rfl | exact Or.inr rfl)) pgs_nil))) (pss_one (ps_if (pt_chain op_le op_le (pv 2) (pv 5) (pv 3)) (pss_one (ps_expr (pe_bmK (K := K) PySem.F.plainAttrs_list PySem.F.slot_list_extend PySem.F.type_list_extend mt_extend (pv 4) (pa_cons (pv 6) pa_nil)))) pss_nil)))
      (pss_one (ps_ret (pv 4))))), ?_⟩
    walk_at "rd"
    refine ⟨by decide, New.intro fun p G1 np s1 g1 => ⟨⟨_, s1.seq hS⟩, ⟨_, s1.seq hb⟩, ?_⟩⟩
    refine Loop.zip (xs := ns.map V.int) (ys := ps) (by rw [List.length_map]; exact hn) (fun i σ HA => ∃ (x5 x6 : Option V) (acc : List V), σ = [some (.ref a), some (.ref b), some (.int f), some (.int l), some (.ref p), x5, x6] ∧ Same H HA ∧ HA p = some (.lst acc) ∧ acc = betwI f l ns ds i ∧ acc.length ≤ 3 * i) ⟨none, none, [], rfl, s1, g1, rfl, Nat.le_refl _⟩ ?_ ?_ ?_
    · rintro i σ HA _ ⟨x5, x6, acc, rfl, sA, _⟩
      exact ⟨sA.seq hS, sA.seq hb⟩
    · rintro i x y σ HA T H1 hx hy ⟨x5, x6, acc, rfl, sA, hp, ea, la⟩ nT sT hT
      obtain ⟨z, hz, rfl⟩ := int_at hx
      have hi : i < ns.length := (List.getElem?_eq_some_iff.mp hz).1
      obtain ⟨c, d, hd, rfl, hc, _, ld, ad⟩ := hP.get hy
      have eb := betw_succ (f := f) (l := l) hz hd
      walk_at "rd"
      have inv : ∀ {d' : List V}, d' = (if f ≤ z ∧ z ≤ l then d else []) → ∀ H2, Same H H2 → H2 p = some (.lst (acc ++ d')) → Same H H2 ∧ ∃ x, H2 p = some (HO.lst x) ∧ x = betwI f l ns ds (i + 1) ∧ x.length ≤ 3 * (i + 1) := fun e H2 s2 h2 => ⟨s2, _, h2, by rw [eb, ea, e], by rw [List.length_append, e]; split; omega; rw [List.length_nil]; omega⟩
      have hp1 := sT _ _ hp
      have no : ¬ (f ≤ z ∧ z ≤ l) → Same H H1 ∧ ∃ x, H1 p = some (HO.lst x) ∧ x = betwI f l ns ds (i + 1) ∧ x.length ≤ 3 * (i + 1) := fun g => inv (d' := []) (by rw [if_neg g]) H1 (sA.trans sT) (by rw [List.append_nil]; exact hp1)
      refine ⟨_, seqT_of hT, rfl, _, _, rfl, _, _, rfl, rfl, z, rfl, ite2 (fun g1 => ⟨z, rfl, ite2 (fun g2 => ?_) (fun g2 => no (fun h => g2 h.2))⟩) (fun g1 => no (fun h => g1 h.1))⟩
      refine ⟨tyv_list (seq_of hp1), c, rfl, _, hp1, d, (sA.trans sT) _ _ hc, sz100 (by omega), Upd.intro fun H2 o2 h2 => inv (d' := d) (by rw [if_pos ⟨g1, g2⟩]) H2 (Same.off (sA.trans sT) np o2) h2⟩
    · rintro σ HA ⟨x5, x6, acc, rfl, sA, hp, ea, la⟩
      walk_at "rd"
      rw [List.length_map] at ea
      exact q p HA np sA (by rw [hp, ea]; rfl)
theorem ok_looks {f : Addr} {fd : FuncData} (F : Fun K "_law_looks" "_law_looks" s_law_looks f fd) (z_range : mg "range" = none) (z_len : mg "len" = none) (z_list : mg "list" = none) (z_isinstance : mg "isinstance" = none) (D_looks_between : Dn P w K mg base CX0 1 "looks_between" ["rows", "places", "first", "last"] (spBetween K)) : FnOk P w K mg base CX0 2 f fd ["_law_draws"] (spOn K) := by
  refine F.ok sc_law_looks (fun vs H Q E h => ?_) (fun cdv A outer s H vs Q E hr h => ?_)
  · obtain ⟨a, ds, rfl, _⟩ := h
    rfl
  · obtain ⟨a, ds, rfl, hS, hD, q⟩ := h
    refine ⟨_, (pss_cons (ps_set (i := 1) sc_law_looks.nd rfl (by first | exact Or.inl rfl | exact Or.inr rfl) (pe_lst pa_nil))
      (pss_cons (ps_set (i := 2) sc_law_looks.nd rfl (by first | exact Or.inl rfl | exact Or.inr rfl) (pe_lst pa_nil))
      (pss_cons (ps_for PassesOwn.never rfl (pi_rangeL1 (by rfl) z_range (pa_cons (pe_ix (ix_listK (K := K)) (pv 0) pe_int (fun _ _ => rfl)) pa_nil)) (pg_name (i := 3) sc_law_looks.nd rfl (by first | exact Or.inl rfl | exact Or.inr rfl)) (pss_cons (ps_set (i := 4) sc_law_looks.nd rfl (by first | exact Or.inl rfl | exact Or.inr rfl) (pe_ix (ix_listK (K := K)) (pv 0) (pe_op op_add pe_int (pv 3)) (fun _ _ => rfl)))
      (pss_cons (ps_expr (pe_bmK (K := K) PySem.F.plainAttrs_list PySem.F.slot_list_append PySem.F.type_list_append mt_append (pv 1) (pa_cons (pe_op op_modN (pv 4) pe_int) pa_nil)))
      (pss_one (ps_expr (pe_bmK (K := K) PySem.F.plainAttrs_list PySem.F.slot_list_append PySem.F.type_list_append mt_append (pv 2) (pa_cons (pe_lc (own := [("_law_j", 5)]) (g := gName 5) (tt := tYes) rfl sc_law_looks.nd (pi_rangeL1 (by rfl) z_range (pa_cons (pe_op op_modN (pe_op op_fdivW (pv 4) pe_int) pe_int) pa_nil)) (blkOk_by (own := [("_law_j", 5)]) (N := ["_law_draws", "_law_rows", "_law_places", "_law_k", "_law_number", "_law_j", "_law_first", "_law_last", "_law_due", "_law_handed", "_law_some", "_law_told"]) (sc := defScope s_law_looks) (by decide +kernel)) (fun _ _ _ _ _ => pg_name (i := 5) sc_law_looks.nd rfl (Or.inl rfl)) (fun _ _ _ _ _ => pts_nil) (fun _ _ _ _ _ => (pe_tup (pa_cons (pe_op op_add (pe_op op_modN (pe_op op_fdivW (pv 4) pe_int) pe_int) (pv 5)) (pa_cons pe_int (pa_cons pe_int pa_nil)))))) pa_nil)))))))
      (pss_cons (ps_set (i := 6) sc_law_looks.nd rfl (by first | exact Or.inl rfl | exact Or.inr rfl) (pe_op op_modN (pe_ix (ix_listK (K := K)) (pv 0) pe_int (fun _ _ => rfl)) pe_int))
      (pss_cons (ps_set (i := 7) sc_law_looks.nd rfl (by first | exact Or.inl rfl | exact Or.inr rfl) (pe_op op_fdivW (pe_ix (ix_listK (K := K)) (pv 0) pe_int (fun _ _ => rfl)) pe_int))
      (pss_cons (ps_set (i := 8) sc_law_looks.nd rfl (by first | exact Or.inl rfl | exact Or.inr rfl) (pe_lst pa_nil))
      (pss_cons (ps_for PassesOwn.never rfl (pi_rangeL1 (by rfl) z_range (pa_cons (pe_callB (call_lenR (K := K)) (by rfl) z_len (by decide +kernel) (pa_cons (pv 1) pa_nil)) pa_nil)) (pg_name (i := 3) sc_law_looks.nd rfl (by first | exact Or.inl rfl | exact Or.inr rfl)) (pss_one (ps_if (PW.pt (pw_and (pt_cmpR op_ge (pe_ix (ix_listK (K := K)) (pv 1) (pv 3) (fun _ _ => rfl)) (pv 6) (nomark _)) (pw_and1 (pt_cmpR op_le (pe_ix (ix_listK (K := K)) (pv 1) (pv 3) (fun _ _ => rfl)) (pv 7) (nomark _))))) (pss_one (ps_set (i := 8) sc_law_looks.nd rfl (by first | exact Or.inl rfl | exact Or.inr rfl) (pe_op (op_catS (K := K)) (pv 8) (pe_ix (ix_listK (K := K)) (pv 2) (pv 3) (fun _ _ => rfl))))) pss_nil)))
      (pss_cons (ps_setLc (i := 9) (own := [("_law_some", 10)]) (g := gName 10) (tt := tYes) rfl sc_law_looks.nd rfl rfl (sw_true rfl rfl rfl (by decide +kernel)) (pi_listK (pv 2) (K := K)) (blkOk_by (own := [("_law_some", 10)]) (N := ["_law_draws", "_law_rows", "_law_places", "_law_k", "_law_number", "_law_j", "_law_first", "_law_last", "_law_due", "_law_handed", "_law_some", "_law_told"]) (sc := defScope s_law_looks) (by decide +kernel)) (fun _ _ _ _ _ => pg_name (i := 10) sc_law_looks.nd rfl (Or.inl rfl)) (fun _ _ _ _ _ => pts_nil) (fun _ _ _ _ _ => (pe_callTy (call_listR (K := K)) (by rfl) z_list (by decide +kernel) (pa_cons (pv 10) pa_nil))))
      (pss_cons (ps_set (i := 11) sc_law_looks.nd rfl (by first | exact Or.inl rfl | exact Or.inr rfl) (pe_cd D_looks_between (hr.mono (by decide)) (by rfl) pass0 (pa_cons (pe_callTy (call_listR (K := K)) (by rfl) z_list (by decide +kernel) (pa_cons (pv 1) pa_nil)) (pa_cons (pv 9) (pa_cons (pv 6) (pa_cons (pv 7) pa_nil))))))
      (pss_cons (ps_if (PW.pt (pw_or (pt_not (pt_val (pe_callB (call_isiK' (K := K)) (by rfl) z_isinstance (by decide +kernel) (pa_cons (pv 11) (pa_cons (pe_bltn (v := V.ty "list") (u := Value.type "list") (by rfl) z_list (by decide +kernel) rfl) pa_nil))))) (pw_or1 (pt_cmpR (op_neV hr.units (K := K)) (pv 11) (pv 8) (nomark _))))) (pss_one (ps_ret pe_bl)) pss_nil)
      (pss_cons (ps_expr (pe_bmK (K := K) PySem.F.plainAttrs_list PySem.F.slot_list_append PySem.F.type_list_append mt_append (pv 11) (pa_cons (pe_tup (pa_cons pe_int (pa_cons pe_int (pa_cons pe_int pa_nil)))) pa_nil)))
      (pss_one (ps_ret (pe_and (pe_cmpR (op_eqVK hr.units (K := K)) (pv 9) (pv 2) (nomark _)) (pe_one (pe_cmpR (op_eqVK hr.units (K := K)) (pe_cd D_looks_between (hr.mono (by decide)) (by rfl) pass0 (pa_cons (pv 1) (pa_cons (pv 9) (pa_cons (pv 6) (pa_cons (pv 7) pa_nil))))) (pv 8) (nomark _))))))))))))))))), ?_⟩
    walk_at "rd"
    obtain ⟨v7, a7, b7, c7⟩ := Drawn.pick hD (k := 7) (by decide) rfl
    obtain ⟨v8, a8, b8, c8⟩ := Drawn.pick hD (k := 8) (by decide) rfl
    refine ⟨by decide, New.intro fun r G1 nr s1 g1 => ⟨by decide, New.intro fun p G np s2 g2 => ?_⟩⟩
    have s12 := s1.trans s2
    have gr := s2 _ _ g1
    have nrp : r ≠ p := ne_of_none g1 np
    refine ⟨_, s12.seq hS, _, a7, v7, rfl, ?_⟩
    have toS : ∀ {HA : Hp}, OffS [r, p] G HA → Same H HA := fun o => OffS.toSame s12 o (fun a m => by
      rcases List.mem_cons.mp m with rfl | m
      · exact nr
      · rw [List.mem_singleton.mp m]
        exact s1.free np)
    refine Loop.range (fun i σ HA => ∃ (x3 x4 : Option V) (ns : List Int) (ps : List V) (ds2 : List (List V)), σ = [some (.ref a), some (.ref r), some (.ref p), x3, x4, none, none, none, none, none, none, none] ∧ OffS [r, p] G HA ∧ HA r = some (.lst (ns.map V.int)) ∧ HA p = some (.lst ps) ∧ LT G HA ps ds2 ∧ ns.length = i ∧ ps.length = i) ⟨none, none, [], [], [], rfl, OffS.refl, gr, g2, .nil, rfl, rfl⟩ ?_ ?_
    · rintro i σ HA hi ⟨x3, x4, ns, ps, ds2, rfl, oA, hr', hp, T, ln, lp⟩
      have hi8 : i = 0 ∨ i = 1 ∨ i = 2 ∨ i = 3 ∨ i = 4 ∨ i = 5 ∨ i = 6 ∨ i = 7 := by omega
      obtain ⟨z, az, bz, cz⟩ := Drawn.pick hD (k := 9 + (0 + (i : Int))) (m := 2000) (by omega) (by rcases hi8 with h | h | h | h | h | h | h | h <;> subst h <;> rfl)
      walk_at "rd"
      have dv : ∀ m : Int, 0 < m → m < 1000 → CDivW z m := fun m h1 h2 => wide_div (b := 200) h1 (by omega) (by decide) (by decide)
      refine ⟨_, (toS oA).seq hS, _, az, tyv_list (seq_of hr'), z, rfl, by decide, _, hr', sz100l (by rw [List.length_map]; omega), Upd.intro fun HB oB hrB => ?_⟩
      have hpB := oB _ _ (Ne.symm nrp) hp
      have oAB : OffS [r, p] G HB := oA.trans (OffS.off oB (by simp))
      have m4 := Int.fmod_lt_of_pos (z / 500) (show (0 : Int) < 4 by decide)
      refine ⟨tyv_list (seq_of hpB), z, rfl, dv 500 (by decide) (by decide), by decide, ?_⟩
      refine Cmp.range (fun D i acc HE => HB D = none ∧ Same HB HE ∧ HE D = some (.lst acc) ∧ acc.all atom = true) (fun D HE nD sE hE => ⟨nD, sE, hE, rfl⟩) ?_ ?_
      · rintro D k acc HE Nx hk ha ⟨nD, sE, hE, aE⟩ hN
        walk_at "rd"
        refine ⟨dv 10 (by decide) (by decide), by decide, by decide, New.intro fun u HF nu sF hF => ⟨acc, sF _ _ hE, sz100l (by omega), hN _ _ (by rw [List.length_append, List.length_singleton]; omega) ⟨nD, Same.off (sE.trans sF) nD Off.upd, upd_same, ?_⟩⟩⟩
        rw [List.all_append, aE]
        rfl
      · rintro D acc HE ha ⟨nD, sE, hE, aE⟩
        have hpE := sE _ _ hpB
        refine ⟨_, hpE, sz100l (by omega), Upd.intro fun HF oF hpF => ?_⟩
        have oF' : OffS [r, p] G HF := (oAB.trans (OffS.same sE)).trans (OffS.off oF (by simp))
        have GD : G D = none := by
          cases e : G D with
          | none => rfl
          | some o =>
            exfalso
            by_cases h1 : D = r
            · subst h1
              rw [nD] at hrB
              cases hrB
            · by_cases h2 : D = p
              · subst h2
                rw [nD] at hpB
                cases hpB
              · have := oAB D o (by simp [h1, h2]) e
                rw [nD] at this
                cases this
        have nDp : D ≠ p := fun e => by
          subst e
          rw [nD] at hpB
          cases hpB
        refine ⟨oF', ns ++ [z.fmod 10], ?_, _, hpF, ⟨ds2 ++ [acc], LT.snoc (T.mono fun b d gb hb => ?_) ⟨D, rfl, oF _ _ nDp hE, GD, by omega, aE⟩⟩, by rw [List.length_append, ln]; rfl, by rw [List.length_append, lp]; rfl⟩
        · rw [oF _ _ nrp (sE _ _ hrB), List.map_append]
          rfl
        · have b1 : b ≠ r := fun e => by
            subst e
            rw [gr] at gb
            cases gb
          have b2 : b ≠ p := fun e => by
            subst e
            rw [g2] at gb
            cases gb
          exact oF _ _ b2 (sE _ _ (oB _ _ b1 hb))
    · rintro σ HA ⟨x3, x4, ns, ps, ds2, rfl, oA, hr', hp, T, ln, lp⟩
      walk_at "rd"
      have sA := toS oA
      have ld := T.len
      refine ⟨_, sA.seq hS, _, a8, v8, rfl, by decide, _, sA.seq hS, _, a8, v8, rfl, wide_div (b := 200) (by decide) (by decide) (by decide) (by decide), by decide, New.intro fun d0 HB n0 s0 h0 => ⟨_, .inl (seq_of (s0 _ _ hr')), ?_⟩⟩
      rw [List.length_map, ln]
      generalize ef : v8.fmod 10 = ff
      generalize el : v8 / 10 = ll
      refine Loop.range (fun i σ HC => ∃ (x3 : Option V) (dd : Addr) (acc : List V), σ = [some (.ref a), some (.ref r), some (.ref p), x3, x4, none, some (.int ff), some (.int ll), some (.ref dd), none, none, none] ∧ Same HA HC ∧ HC dd = some (.lst acc) ∧ acc = betwI ff ll ns ds2 i ∧ acc.length ≤ 3 * i ∧ acc.all atom = true) ⟨_, d0, [], rfl, s0, h0, rfl, Nat.le_refl _, rfl⟩ ?_ ?_
      · rintro i σ HC hi ⟨x3, dd, acc, rfl, sC, hd, ea, la, aa⟩
        walk_at "rd"
        have hi8 : i < ns.length := by omega
        have hz : ns[i]? = some ns[i] := List.getElem?_eq_getElem hi8
        generalize ns[i] = z at hz
        have az : atI (ns.map V.int) (0 + (i : Int)) = some (.int z) := at_of (j := i) (by omega) (by rw [List.getElem?_map, hz]; rfl)
        have hx : ps[i]? = some ps[i] := List.getElem?_eq_getElem (by omega)
        generalize ps[i] = x at hx
        obtain ⟨c, d, hd', rfl, hc, gc, l3, ad⟩ := T.get hx
        have ax : atI ps (0 + (i : Int)) = some (.ref c) := at_of (j := i) (by omega) hx
        have eb := betw_succ (f := ff) (l := ll) hz hd'
        have no : ¬ (ff ≤ z ∧ z ≤ ll) → Same HA HC ∧ ∃ x, HC dd = some (HO.lst x) ∧ x = betwI ff ll ns ds2 (i + 1) ∧ x.length ≤ 3 * (i + 1) ∧ x.all atom = true := fun g => ⟨sC, acc, hd, by rw [eb, if_neg g, List.append_nil, ea], by omega, aa⟩
        refine ⟨_, seq_of (sC _ _ hr'), _, az, z, rfl, ite2 (fun g1 => ⟨_, seq_of (sC _ _ hr'), _, az, z, rfl, ite2 (fun g2 => ?_) (fun g2 => no (fun h => g2 h.2))⟩) (fun g1 => no (fun h => g1 h.1))⟩
        refine ⟨_, seq_of (sC _ _ hp), _, ax, c, rfl, _, seq_of hd, _, seq_of (sC _ _ hc), sz100 (by omega), New.intro fun d1 HD n1 sD hD' => ⟨sC.trans sD, _, hD', by rw [eb, if_pos ⟨g1, g2⟩, ea], by rw [List.length_append]; omega, by rw [List.all_append, aa, ad]; rfl⟩⟩
      · rintro σ HC ⟨x3, dd, acc, rfl, sC, hd, ea, la, aa⟩
        walk_at "rd"
        have eb : acc = betw ff ll ns ds2 := by
          rw [ea, ← ln]
          rfl
        refine ⟨⟨_, seq_of (sC _ _ hp)⟩, Cmp.list (xs := ps) (fun D i cc HE => HC D = none ∧ Same HC HE ∧ HE D = some (.lst cc) ∧ LT (offD D) HE cc (ds2.take i)) (fun D HE nD sE hE => ⟨nD, sE, hE, .nil⟩) (fun D i cc HE _ ⟨_, sE, _⟩ => seq_of (sE _ _ (sC _ _ hp))) ?_ ?_⟩
        · rintro D i x cc HE Nx hx hc' ⟨nD, sE, hE, TE⟩ hN
          have hi : i < ps.length := (List.getElem?_eq_some_iff.mp hx).1
          obtain ⟨c, d, hd', rfl, hc, gc, l3, ad⟩ := T.get hx
          walk_at "rd"
          refine ⟨_, .inl (seq_of (sE _ _ (sC _ _ hc))), New.intro fun u HF nu sF hF => push hN hc' (sF _ _ hE) (by omega) fun H5 o5 h5 => ⟨nD, Same.off (sE.trans sF) nD o5, h5, ?_⟩⟩
          have nu' : u ≠ D := fun e => by
            subst e
            rw [hE] at nu
            cases nu
          rw [take_snoc hd']
          exact LT.snoc (TE.mono fun b d gb hb => o5 _ _ (offD_ne gb) (sF _ _ hb)) ⟨u, rfl, o5 _ _ nu' hF, if_neg nu', l3, ad⟩
        · rintro D cc HE lc ⟨nD, sE, hE, TE⟩
          rw [ld, List.take_length] at TE
          have lcc := TE.len
          refine ⟨_, .inl (seq_of (sE _ _ (sC _ _ hr'))), New.intro fun l1 HF nl sF hF => ⟨l1, D, ns, cc, ds2, ff, ll, _, rfl, seq_of hF, seq_of (sF _ _ hE), by omega, by omega, TE.same sF, fun t HG nt sG hG => ?_⟩⟩
          have sCG : Same HC HG := sE.trans (sF.trans sG)
          have dG := sCG _ _ hd
          rw [eb] at dG
          have ab : (betw ff ll ns ds2).all atom = true := by rw [← eb]; exact aa
          have lb : (betw ff ll ns ds2).length ≤ 100 := by rw [← eb]; omega
          refine isiT (thg_lst hG) (by decide) (iteN (by decide) ⟨t, rfl, _, seq_of hG, seq_of dG, ab, tyv_list (seq_of hG), by decide, New.intro fun tp HI ni sI hI => ⟨t, rfl, _, sI _ _ hG, sz100l (by omega), Upd.intro fun HJ oJ hJ => ?_⟩⟩)
          have sFJ : Same HF HJ := Same.off (sG.trans sI) nt oJ
          have TJ : LT G HJ ps ds2 := T.same (sC.trans (sE.trans (sF.trans sFJ)))
          have TD : LT (offD D) HJ cc ds2 := TE.same (sF.trans sFJ)
          have sCJ : Same HC HJ := sE.trans (sF.trans sFJ)
          refine ⟨2, by decide, .inl ⟨D, p, cc, ps, rfl, rfl, seq_of (sFJ _ _ (sF _ _ hE)), seq_of (sCJ _ _ (sC _ _ hp)), LT.eqv TD TJ⟩, true, rfl, iteP rfl ?_⟩
          refine ⟨r, D, ns, cc, ds2, ff, ll, _, rfl, seq_of (sCJ _ _ (sC _ _ hr')), seq_of (sFJ _ _ (sF _ _ hE)), by omega, by omega, TD, fun t2 HK nt2 sK hK => ?_⟩
          have dK := (sCJ.trans sK) _ _ hd
          rw [eb] at dK
          exact eqV_lists (seq_of hK) (seq_of dK) ab (q HK (sA.trans (sC.trans (sCJ.trans sK))))
theorem ok_law {f : Addr} {fd : FuncData} (F : Fun K "law" "law" s_law f fd) (z_len : mg "len" = none) (D_law_drawn : Dn P w K mg base CX0 1 "_law_drawn" ["_law_cell", "_law_sizes"] (spDrawn K)) (D_law_held : DnG P w K mg base CX0 10 "_law_held" ["_law_draws"] (spOn K)) (D_law_looks : Dn P w K mg base CX0 2 "_law_looks" ["_law_draws"] (spOn K)) : FnOkG P w K mg base CX0 11 f fd ["_law_script"] (spLaw K) := by
  refine Fun_okG F sc_law (fun vs H Q E h => ?_) (fun cdv A outer s H vs Q E hr hA h => ?_)
  · obtain ⟨a, ns, rfl, _⟩ := h
    rfl
  · obtain ⟨a, ns, rfl, hS, hl, q⟩ := h
    refine ⟨_, (pss_cons (ps_for PassesOwn.never rfl (pi_listK (pe_op (op_catS (K := K)) (pe_slice (sl_listK (K := K)) (pv 0) po_none (po_some pe_int)) (pe_lst (pa_cons (pe_callB (call_lenR (K := K)) (by rfl) z_len (by decide +kernel) (pa_cons (pv 0) pa_nil)) pa_nil))) (K := K)) (pg_name (i := 1) sc_law.nd rfl (by first | exact Or.inl rfl | exact Or.inr rfl)) (pss_cons (ps_set (i := 2) sc_law.nd rfl (by first | exact Or.inl rfl | exact Or.inr rfl) (pe_cd D_law_drawn (hr.mono (by decide)) (by rfl) pass0 (pa_cons (pv 1) (pa_cons (pe_op (op_catS (K := K)) (pe_lst (pa_cons pe_int (pa_cons pe_int (pa_cons pe_int (pa_cons pe_int (pa_cons pe_int (pa_cons pe_int (pa_cons pe_int (pa_cons pe_int (pa_cons pe_int pa_nil)))))))))) (pe_op op_rep (pe_lst (pa_cons pe_int pa_nil)) pe_int)) pa_nil))))
      (pss_one (ps_if (PW.pt (pw_or (pt_not (pt_val (pe_cdG D_law_held hA (hr.mono (by decide)) (by rfl) pass0 (pa_cons (pv 2) pa_nil)))) (pw_or1 (pt_not (pt_val (pe_cd D_law_looks (hr.mono (by decide)) (by rfl) pass0 (pa_cons (pv 2) pa_nil))))))) (pss_one (ps_ret pe_bl)) pss_nil))))
      (pss_one (ps_ret pe_bl))), ?_⟩
    walk_at "rd"
    refine ⟨_, hS, New.intro fun u16 G16 n16 s16 g16 => ⟨_, .inl (s16.seq hS), by decide, New.intro fun u17 G17 n17 s17 g17 => ?_⟩⟩
    rw [show (some 4 : Option Int) = some ((4 : Nat) : Int) from rfl, cut_to, ← List.map_take] at g16
    refine ⟨_, seq_of (s17 _ _ g16), _, seq_of g17, by rw [List.length_map, List.length_take]; exact sz100 (by rw [List.length_singleton]; omega), New.intro fun uc G18 n18 s18 g18 => ?_⟩
    obtain ⟨cs, ec⟩ : ∃ cs : List Int, (ns.take 4).map V.int ++ [V.int ((ns.map V.int).length : Int)] = cs.map V.int := ⟨ns.take 4 ++ [((ns.map V.int).length : Int)], by rw [List.map_append]; rfl⟩
    rw [ec] at g18
    refine ⟨⟨_, seq_of g18⟩, Loop.list (xs := cs.map V.int) (fun i σ HA => ∃ (y1 y2 : Option V), σ = [some (.ref a), y1, y2] ∧ Same G18 HA) ⟨_, _, rfl, Same.refl _⟩ ?_ ?_ ?_⟩
    · rintro i σ HA _ ⟨y1, y2, rfl, sA⟩
      exact sA.seq (seq_of g18)
    · rintro i x σ HA hx ⟨y1, y2, rfl, sA⟩
      obtain ⟨z, hz, rfl⟩ := int_at hx
      walk_at "rd"
      refine ⟨by decide, New.intro fun w1 H1 m1 t1 f1 => ⟨by decide, New.intro fun w2 H2 m2 t2 f2 => ?_⟩⟩
      refine ⟨_, f2, by decide, by decide, by decide, New.intro fun w3 H3 m3 t3 f3 => ⟨_, seq_of ((t2.trans t3) _ _ f1), _, seq_of f3, by decide, New.intro fun w4 H4 m4 t4 f4 => ?_⟩⟩
      refine ⟨z, w4, [8, 8, 8, 10, 7, 7, 64, 9, 100] ++ List.replicate 8 2000, rfl, seq_of (by rw [f4]; rfl), (by decide +kernel), by decide, fun wd H5 ds m5 t5 f5 dd2 => ?_⟩
      have t15 : Same HA H5 := t1.trans (t2.trans (t3.trans (t4.trans t5)))
      refine ⟨wd, ds, rfl, seq_of f5, dd2, fun H6 t6 => ⟨true, rfl, iteN (by decide) ⟨wd, ds, rfl, seq_of (t6 _ _ f5), dd2, fun H7 t7 => ⟨true, rfl, iteN (by decide) ?_⟩⟩⟩⟩
      exact sA.trans (t15.trans (t6.trans t7))
    · rintro σ HA ⟨y1, y2, rfl, sA⟩
      walk_at "rd"
      exact q HA
end
theorem all_mk {l : PySem.W.OpenLaw} {w : World} {K : PySem.W.Frag} {h : Heap} {mg : Str → Option Value} {fa f_law_drawn f_is_whole f_is_within f_NoLine_init f_NoKeep_init f_NoPlace_init f_is_place f_last_cell f_need_place f_cells_in f_need_line f_need_lines f_distances f_Kept_touch f_missed f_is_fetch f_need_bound f_Kept_init f_fetches f_how_many f_counts f_is_fetches f_lines_of f_law_asked f_law_refused f_law_bad f_law_held f_looks_between f_law_looks f_law C_Kept C_NoKeep C_NoLine C_NoPlace C_RoomError : Addr} (X : K.In h) (G : h.Ns mainGlobals mg) (hfa : mg "law" = some (.ref fa))
    {od_law_drawn an_law_drawn : Option Addr} {sl_law_drawn : Array (Option Value)} {oc_law_drawn kV_law_drawn dc_law_drawn pm_law_drawn cd_law_drawn ct_law_drawn : Value}
    {od_is_whole an_is_whole : Option Addr} {sl_is_whole : Array (Option Value)} {oc_is_whole kV_is_whole dc_is_whole pm_is_whole cd_is_whole ct_is_whole : Value}
    {od_is_within an_is_within : Option Addr} {sl_is_within : Array (Option Value)} {oc_is_within kV_is_within dc_is_within pm_is_within cd_is_within ct_is_within : Value}
    {od_NoLine_init an_NoLine_init : Option Addr} {sl_NoLine_init : Array (Option Value)} {oc_NoLine_init kV_NoLine_init dc_NoLine_init pm_NoLine_init cd_NoLine_init ct_NoLine_init : Value}
    {od_NoKeep_init an_NoKeep_init : Option Addr} {sl_NoKeep_init : Array (Option Value)} {oc_NoKeep_init kV_NoKeep_init dc_NoKeep_init pm_NoKeep_init cd_NoKeep_init ct_NoKeep_init : Value}
    {od_NoPlace_init an_NoPlace_init : Option Addr} {sl_NoPlace_init : Array (Option Value)} {oc_NoPlace_init kV_NoPlace_init dc_NoPlace_init pm_NoPlace_init cd_NoPlace_init ct_NoPlace_init : Value}
    {od_is_place an_is_place : Option Addr} {sl_is_place : Array (Option Value)} {oc_is_place kV_is_place dc_is_place pm_is_place cd_is_place ct_is_place : Value}
    {od_last_cell an_last_cell : Option Addr} {sl_last_cell : Array (Option Value)} {oc_last_cell kV_last_cell dc_last_cell pm_last_cell cd_last_cell ct_last_cell : Value}
    {od_need_place an_need_place : Option Addr} {sl_need_place : Array (Option Value)} {oc_need_place kV_need_place dc_need_place pm_need_place cd_need_place ct_need_place : Value}
    {od_cells_in an_cells_in : Option Addr} {sl_cells_in : Array (Option Value)} {oc_cells_in kV_cells_in dc_cells_in pm_cells_in cd_cells_in ct_cells_in : Value}
    {od_need_line an_need_line : Option Addr} {sl_need_line : Array (Option Value)} {oc_need_line kV_need_line dc_need_line pm_need_line cd_need_line ct_need_line : Value}
    {od_need_lines an_need_lines : Option Addr} {sl_need_lines : Array (Option Value)} {oc_need_lines kV_need_lines dc_need_lines pm_need_lines cd_need_lines ct_need_lines : Value}
    {od_distances an_distances : Option Addr} {sl_distances : Array (Option Value)} {oc_distances kV_distances dc_distances pm_distances cd_distances ct_distances : Value}
    {od_Kept_touch an_Kept_touch : Option Addr} {sl_Kept_touch : Array (Option Value)} {oc_Kept_touch kV_Kept_touch dc_Kept_touch pm_Kept_touch cd_Kept_touch ct_Kept_touch : Value}
    {od_missed an_missed : Option Addr} {sl_missed : Array (Option Value)} {oc_missed kV_missed dc_missed pm_missed cd_missed ct_missed : Value}
    {od_is_fetch an_is_fetch : Option Addr} {sl_is_fetch : Array (Option Value)} {oc_is_fetch kV_is_fetch dc_is_fetch pm_is_fetch cd_is_fetch ct_is_fetch : Value}
    {od_need_bound an_need_bound : Option Addr} {sl_need_bound : Array (Option Value)} {oc_need_bound kV_need_bound dc_need_bound pm_need_bound cd_need_bound ct_need_bound : Value}
    {od_Kept_init an_Kept_init : Option Addr} {sl_Kept_init : Array (Option Value)} {oc_Kept_init kV_Kept_init dc_Kept_init pm_Kept_init cd_Kept_init ct_Kept_init : Value}
    {od_fetches an_fetches : Option Addr} {sl_fetches : Array (Option Value)} {oc_fetches kV_fetches dc_fetches pm_fetches cd_fetches ct_fetches : Value}
    {od_how_many an_how_many : Option Addr} {sl_how_many : Array (Option Value)} {oc_how_many kV_how_many dc_how_many pm_how_many cd_how_many ct_how_many : Value}
    {od_counts an_counts : Option Addr} {sl_counts : Array (Option Value)} {oc_counts kV_counts dc_counts pm_counts cd_counts ct_counts : Value}
    {od_is_fetches an_is_fetches : Option Addr} {sl_is_fetches : Array (Option Value)} {oc_is_fetches kV_is_fetches dc_is_fetches pm_is_fetches cd_is_fetches ct_is_fetches : Value}
    {od_lines_of an_lines_of : Option Addr} {sl_lines_of : Array (Option Value)} {oc_lines_of kV_lines_of dc_lines_of pm_lines_of cd_lines_of ct_lines_of : Value}
    {od_law_asked an_law_asked : Option Addr} {sl_law_asked : Array (Option Value)} {oc_law_asked kV_law_asked dc_law_asked pm_law_asked cd_law_asked ct_law_asked : Value}
    {od_law_refused an_law_refused : Option Addr} {sl_law_refused : Array (Option Value)} {oc_law_refused kV_law_refused dc_law_refused pm_law_refused cd_law_refused ct_law_refused : Value}
    {od_law_bad an_law_bad : Option Addr} {sl_law_bad : Array (Option Value)} {oc_law_bad kV_law_bad dc_law_bad pm_law_bad cd_law_bad ct_law_bad : Value}
    {od_law_held an_law_held : Option Addr} {sl_law_held : Array (Option Value)} {oc_law_held kV_law_held dc_law_held pm_law_held cd_law_held ct_law_held : Value}
    {od_looks_between an_looks_between : Option Addr} {sl_looks_between : Array (Option Value)} {oc_looks_between kV_looks_between dc_looks_between pm_looks_between cd_looks_between ct_looks_between : Value}
    {od_law_looks an_law_looks : Option Addr} {sl_law_looks : Array (Option Value)} {oc_law_looks kV_law_looks dc_law_looks pm_law_looks cd_law_looks ct_law_looks : Value}
    {od_law an_law : Option Addr} {sl_law : Array (Option Value)} {oc_law kV_law dc_law pm_law cd_law ct_law : Value}
    (aC_NoKeep : PySem.W.nsIn K mainGlobals "NoKeep" = some (some (.ref C_NoKeep)))
    (eC_NoKeep : PySem.W.subIn K (.ref C_NoKeep) (.type "BaseException") = some true)
    (tC_NoKeep : PySem.W.typeIn K (.ref C_NoKeep) = some (.type "type"))
    (hC_NoKeep : PySem.W.hasDictIn K C_NoKeep = true)
    {nm_NoKeep q_NoKeep : Str} {N_NoKeep : Addr} {bs_NoKeep : List Value} {sn_NoKeep : List Str} {sub_NoKeep : List Value} {ab_NoKeep : Bool} {col_NoKeep : Option Bool} {dd_NoKeep : Option Addr} {m0_NoKeep m1_NoKeep m2_NoKeep m3_NoKeep m5_NoKeep : Option Value} (xL_NoKeep : K.lookup C_NoKeep = some (excClassObj nm_NoKeep q_NoKeep C_NoKeep N_NoKeep bs_NoKeep [.ref C_RoomError, .type "ValueError", .type "Exception", .type "BaseException", .type "object"] true sn_NoKeep sub_NoKeep ab_NoKeep col_NoKeep dd_NoKeep m0_NoKeep m1_NoKeep m2_NoKeep m3_NoKeep m5_NoKeep "ValueError.__new__"))
    (sa_NoKeep : PySem.W.findIn K (.ref C_NoKeep) "__setattr__" = some (some (.builtin "object.__setattr__")))
    (ga_NoKeep : PySem.W.findIn K (.ref C_NoKeep) "__getattribute__" = some (some (.builtin "BaseException.__getattribute__")))
    (gg_NoKeep : PySem.W.findIn K (.ref C_NoKeep) "__getattr__" = some none)
    (kC_NoKeep : PySem.W.keepIn K (.ref C_NoKeep) = true)
    (aC_NoLine : PySem.W.nsIn K mainGlobals "NoLine" = some (some (.ref C_NoLine)))
    (eC_NoLine : PySem.W.subIn K (.ref C_NoLine) (.type "BaseException") = some true)
    (tC_NoLine : PySem.W.typeIn K (.ref C_NoLine) = some (.type "type"))
    (hC_NoLine : PySem.W.hasDictIn K C_NoLine = true)
    {nm_NoLine q_NoLine : Str} {N_NoLine : Addr} {bs_NoLine : List Value} {sn_NoLine : List Str} {sub_NoLine : List Value} {ab_NoLine : Bool} {col_NoLine : Option Bool} {dd_NoLine : Option Addr} {m0_NoLine m1_NoLine m2_NoLine m3_NoLine m5_NoLine : Option Value} (xL_NoLine : K.lookup C_NoLine = some (excClassObj nm_NoLine q_NoLine C_NoLine N_NoLine bs_NoLine [.ref C_RoomError, .type "ValueError", .type "Exception", .type "BaseException", .type "object"] true sn_NoLine sub_NoLine ab_NoLine col_NoLine dd_NoLine m0_NoLine m1_NoLine m2_NoLine m3_NoLine m5_NoLine "ValueError.__new__"))
    (sa_NoLine : PySem.W.findIn K (.ref C_NoLine) "__setattr__" = some (some (.builtin "object.__setattr__")))
    (ga_NoLine : PySem.W.findIn K (.ref C_NoLine) "__getattribute__" = some (some (.builtin "BaseException.__getattribute__")))
    (gg_NoLine : PySem.W.findIn K (.ref C_NoLine) "__getattr__" = some none)
    (kC_NoLine : PySem.W.keepIn K (.ref C_NoLine) = true)
    (aC_NoPlace : PySem.W.nsIn K mainGlobals "NoPlace" = some (some (.ref C_NoPlace)))
    (eC_NoPlace : PySem.W.subIn K (.ref C_NoPlace) (.type "BaseException") = some true)
    (tC_NoPlace : PySem.W.typeIn K (.ref C_NoPlace) = some (.type "type"))
    (hC_NoPlace : PySem.W.hasDictIn K C_NoPlace = true)
    {nm_NoPlace q_NoPlace : Str} {N_NoPlace : Addr} {bs_NoPlace : List Value} {sn_NoPlace : List Str} {sub_NoPlace : List Value} {ab_NoPlace : Bool} {col_NoPlace : Option Bool} {dd_NoPlace : Option Addr} {m0_NoPlace m1_NoPlace m2_NoPlace m3_NoPlace m5_NoPlace : Option Value} (xL_NoPlace : K.lookup C_NoPlace = some (excClassObj nm_NoPlace q_NoPlace C_NoPlace N_NoPlace bs_NoPlace [.ref C_RoomError, .type "ValueError", .type "Exception", .type "BaseException", .type "object"] true sn_NoPlace sub_NoPlace ab_NoPlace col_NoPlace dd_NoPlace m0_NoPlace m1_NoPlace m2_NoPlace m3_NoPlace m5_NoPlace "ValueError.__new__"))
    (sa_NoPlace : PySem.W.findIn K (.ref C_NoPlace) "__setattr__" = some (some (.builtin "object.__setattr__")))
    (ga_NoPlace : PySem.W.findIn K (.ref C_NoPlace) "__getattribute__" = some (some (.builtin "BaseException.__getattribute__")))
    (gg_NoPlace : PySem.W.findIn K (.ref C_NoPlace) "__getattr__" = some none)
    (kC_NoPlace : PySem.W.keepIn K (.ref C_NoPlace) = true)
    (aC_RoomError : PySem.W.nsIn K mainGlobals "RoomError" = some (some (.ref C_RoomError)))
    (eC_RoomError : PySem.W.subIn K (.ref C_RoomError) (.type "BaseException") = some true)
    (tC_RoomError : PySem.W.typeIn K (.ref C_RoomError) = some (.type "type"))
    (hC_RoomError : PySem.W.hasDictIn K C_RoomError = true)
    (rd_RoomError : PySem.W.readsIn K C_RoomError (.type "type") = true)
    (sg_RoomError : PySem.W.specialIn K (.ref C_RoomError) "__getattribute__" = some (some (.builtin "type.__getattribute__")))
    (vf_RoomError : PySem.W.findCls K (.ref C_RoomError) (.type "type") "__init__" = some (.val (.builtin "ValueError.__init__")))
    (nb_NoKeep_found : PySem.W.findIn K (.ref C_NoKeep) "found" = some none)
    (nb_NoLine_found : PySem.W.findIn K (.ref C_NoLine) "found" = some none)
    (nb_NoPlace_found : PySem.W.findIn K (.ref C_NoPlace) "found" = some none)
    (oc_get : PySem.W.specialIn K (.builtin "object.__class__") "__get__" = some (some (.builtin "getset_descriptor.__get__")))
    (oc_tk : PySem.W.takesIn K (.builtin "object.__class__") = some true)
    (cl_NoKeep : PySem.W.findIn K (.ref C_NoKeep) "__class__" = some (some (.builtin "object.__class__")))
    (mo_NoKeep : PySem.W.mroIn K C_NoKeep (.type "object") = some true)
    (cl_NoLine : PySem.W.findIn K (.ref C_NoLine) "__class__" = some (some (.builtin "object.__class__")))
    (mo_NoLine : PySem.W.mroIn K C_NoLine (.type "object") = some true)
    (cl_NoPlace : PySem.W.findIn K (.ref C_NoPlace) "__class__" = some (some (.builtin "object.__class__")))
    (mo_NoPlace : PySem.W.mroIn K C_NoPlace (.type "object") = some true)
    (sv_NoKeep_ValueError : PySem.W.subIn K (.ref C_NoKeep) (.type "ValueError") = some true)
    (sv_NoLine_ValueError : PySem.W.subIn K (.ref C_NoLine) (.type "ValueError") = some true)
    (sv_NoPlace_ValueError : PySem.W.subIn K (.ref C_NoPlace) (.type "ValueError") = some true)
    (su_NoKeep_NoKeep : PySem.W.subIn K (.ref C_NoKeep) (.ref C_NoKeep) = some true)
    (su_NoKeep_NoLine : PySem.W.subIn K (.ref C_NoKeep) (.ref C_NoLine) = some false)
    (su_NoKeep_NoPlace : PySem.W.subIn K (.ref C_NoKeep) (.ref C_NoPlace) = some false)
    (su_NoKeep_RoomError : PySem.W.subIn K (.ref C_NoKeep) (.ref C_RoomError) = some true)
    (su_NoLine_NoKeep : PySem.W.subIn K (.ref C_NoLine) (.ref C_NoKeep) = some false)
    (su_NoLine_NoLine : PySem.W.subIn K (.ref C_NoLine) (.ref C_NoLine) = some true)
    (su_NoLine_NoPlace : PySem.W.subIn K (.ref C_NoLine) (.ref C_NoPlace) = some false)
    (su_NoLine_RoomError : PySem.W.subIn K (.ref C_NoLine) (.ref C_RoomError) = some true)
    (su_NoPlace_NoKeep : PySem.W.subIn K (.ref C_NoPlace) (.ref C_NoKeep) = some false)
    (su_NoPlace_NoLine : PySem.W.subIn K (.ref C_NoPlace) (.ref C_NoLine) = some false)
    (su_NoPlace_NoPlace : PySem.W.subIn K (.ref C_NoPlace) (.ref C_NoPlace) = some true)
    (su_NoPlace_RoomError : PySem.W.subIn K (.ref C_NoPlace) (.ref C_RoomError) = some true)
    (aC_Kept : PySem.W.nsIn K mainGlobals "Kept" = some (some (.ref C_Kept)))
    (pg_Kept : PySem.W.plainGet K C_Kept Str.empty = true)
    (hd_Kept : PySem.W.hasDictIn K C_Kept = true)
    (po_Kept : PySem.W.plainOver K C_Kept = true)
    (sa_Kept : PySem.W.findIn K (.ref C_Kept) "__setattr__" = some (some (.builtin "object.__setattr__")))
    (mk_Kept : PySem.W.makesIn K C_Kept = true)
    (kc_Kept : PySem.W.keepIn K (.ref C_Kept) = true)
    (nA_Kept_bound : PySem.W.findIn K (.ref C_Kept) "bound" = some none)
    (nA_Kept_had : PySem.W.findIn K (.ref C_Kept) "had" = some none)
    (a_law_drawn : PySem.W.nsIn K mainGlobals "_law_drawn" = some (some (.ref f_law_drawn)))
    (l_law_drawn : K.lookup f_law_drawn = some ⟨oc_law_drawn, od_law_drawn, .func (PySem.W.fnOf "_law_drawn" "_law_drawn" (defArgs s_law_drawn) (defBody s_law_drawn) (defScope s_law_drawn) .none kV_law_drawn dc_law_drawn pm_law_drawn an_law_drawn cd_law_drawn ct_law_drawn), sl_law_drawn⟩)
    (c_law_drawn : PySem.W.codeIn K cd_law_drawn "_law_drawn" = true)
    (k_law_drawn : PySem.W.keepIn K (.ref f_law_drawn) = true)
    (a_is_whole : PySem.W.nsIn K mainGlobals "is_whole" = some (some (.ref f_is_whole)))
    (l_is_whole : K.lookup f_is_whole = some ⟨oc_is_whole, od_is_whole, .func (PySem.W.fnOf "is_whole" "is_whole" (defArgs s_is_whole) (defBody s_is_whole) (defScope s_is_whole) .none kV_is_whole dc_is_whole pm_is_whole an_is_whole cd_is_whole ct_is_whole), sl_is_whole⟩)
    (c_is_whole : PySem.W.codeIn K cd_is_whole "is_whole" = true)
    (k_is_whole : PySem.W.keepIn K (.ref f_is_whole) = true)
    (a_is_within : PySem.W.nsIn K mainGlobals "is_within" = some (some (.ref f_is_within)))
    (l_is_within : K.lookup f_is_within = some ⟨oc_is_within, od_is_within, .func (PySem.W.fnOf "is_within" "is_within" (defArgs s_is_within) (defBody s_is_within) (defScope s_is_within) .none kV_is_within dc_is_within pm_is_within an_is_within cd_is_within ct_is_within), sl_is_within⟩)
    (c_is_within : PySem.W.codeIn K cd_is_within "is_within" = true)
    (k_is_within : PySem.W.keepIn K (.ref f_is_within) = true)
    (a_NoLine_init : PySem.W.findIn K (.ref C_NoLine) "__init__" = some (some (.ref f_NoLine_init)))
    (t_NoLine_init : PySem.W.typeIn K (.ref f_NoLine_init) = some (.type "function"))
    (l_NoLine_init : K.lookup f_NoLine_init = some ⟨oc_NoLine_init, od_NoLine_init, .func (PySem.W.fnOf "__init__" "NoLine.__init__" (defArgs s_NoLine_init) (defBody s_NoLine_init) (defScope s_NoLine_init) .none kV_NoLine_init dc_NoLine_init pm_NoLine_init an_NoLine_init cd_NoLine_init ct_NoLine_init), sl_NoLine_init⟩)
    (c_NoLine_init : PySem.W.codeIn K cd_NoLine_init "NoLine.__init__" = true)
    (k_NoLine_init : PySem.W.keepIn K (.ref f_NoLine_init) = true)
    (a_NoKeep_init : PySem.W.findIn K (.ref C_NoKeep) "__init__" = some (some (.ref f_NoKeep_init)))
    (t_NoKeep_init : PySem.W.typeIn K (.ref f_NoKeep_init) = some (.type "function"))
    (l_NoKeep_init : K.lookup f_NoKeep_init = some ⟨oc_NoKeep_init, od_NoKeep_init, .func (PySem.W.fnOf "__init__" "NoKeep.__init__" (defArgs s_NoKeep_init) (defBody s_NoKeep_init) (defScope s_NoKeep_init) .none kV_NoKeep_init dc_NoKeep_init pm_NoKeep_init an_NoKeep_init cd_NoKeep_init ct_NoKeep_init), sl_NoKeep_init⟩)
    (c_NoKeep_init : PySem.W.codeIn K cd_NoKeep_init "NoKeep.__init__" = true)
    (k_NoKeep_init : PySem.W.keepIn K (.ref f_NoKeep_init) = true)
    (a_NoPlace_init : PySem.W.findIn K (.ref C_NoPlace) "__init__" = some (some (.ref f_NoPlace_init)))
    (t_NoPlace_init : PySem.W.typeIn K (.ref f_NoPlace_init) = some (.type "function"))
    (l_NoPlace_init : K.lookup f_NoPlace_init = some ⟨oc_NoPlace_init, od_NoPlace_init, .func (PySem.W.fnOf "__init__" "NoPlace.__init__" (defArgs s_NoPlace_init) (defBody s_NoPlace_init) (defScope s_NoPlace_init) .none kV_NoPlace_init dc_NoPlace_init pm_NoPlace_init an_NoPlace_init cd_NoPlace_init ct_NoPlace_init), sl_NoPlace_init⟩)
    (c_NoPlace_init : PySem.W.codeIn K cd_NoPlace_init "NoPlace.__init__" = true)
    (k_NoPlace_init : PySem.W.keepIn K (.ref f_NoPlace_init) = true)
    (a_is_place : PySem.W.nsIn K mainGlobals "is_place" = some (some (.ref f_is_place)))
    (l_is_place : K.lookup f_is_place = some ⟨oc_is_place, od_is_place, .func (PySem.W.fnOf "is_place" "is_place" (defArgs s_is_place) (defBody s_is_place) (defScope s_is_place) .none kV_is_place dc_is_place pm_is_place an_is_place cd_is_place ct_is_place), sl_is_place⟩)
    (c_is_place : PySem.W.codeIn K cd_is_place "is_place" = true)
    (k_is_place : PySem.W.keepIn K (.ref f_is_place) = true)
    (a_last_cell : PySem.W.nsIn K mainGlobals "last_cell" = some (some (.ref f_last_cell)))
    (l_last_cell : K.lookup f_last_cell = some ⟨oc_last_cell, od_last_cell, .func (PySem.W.fnOf "last_cell" "last_cell" (defArgs s_last_cell) (defBody s_last_cell) (defScope s_last_cell) .none kV_last_cell dc_last_cell pm_last_cell an_last_cell cd_last_cell ct_last_cell), sl_last_cell⟩)
    (c_last_cell : PySem.W.codeIn K cd_last_cell "last_cell" = true)
    (k_last_cell : PySem.W.keepIn K (.ref f_last_cell) = true)
    (a_need_place : PySem.W.nsIn K mainGlobals "need_place" = some (some (.ref f_need_place)))
    (l_need_place : K.lookup f_need_place = some ⟨oc_need_place, od_need_place, .func (PySem.W.fnOf "need_place" "need_place" (defArgs s_need_place) (defBody s_need_place) (defScope s_need_place) .none kV_need_place dc_need_place pm_need_place an_need_place cd_need_place ct_need_place), sl_need_place⟩)
    (c_need_place : PySem.W.codeIn K cd_need_place "need_place" = true)
    (k_need_place : PySem.W.keepIn K (.ref f_need_place) = true)
    (a_cells_in : PySem.W.nsIn K mainGlobals "cells_in" = some (some (.ref f_cells_in)))
    (l_cells_in : K.lookup f_cells_in = some ⟨oc_cells_in, od_cells_in, .func (PySem.W.fnOf "cells_in" "cells_in" (defArgs s_cells_in) (defBody s_cells_in) (defScope s_cells_in) .none kV_cells_in dc_cells_in pm_cells_in an_cells_in cd_cells_in ct_cells_in), sl_cells_in⟩)
    (c_cells_in : PySem.W.codeIn K cd_cells_in "cells_in" = true)
    (k_cells_in : PySem.W.keepIn K (.ref f_cells_in) = true)
    (a_need_line : PySem.W.nsIn K mainGlobals "need_line" = some (some (.ref f_need_line)))
    (l_need_line : K.lookup f_need_line = some ⟨oc_need_line, od_need_line, .func (PySem.W.fnOf "need_line" "need_line" (defArgs s_need_line) (defBody s_need_line) (defScope s_need_line) .none kV_need_line dc_need_line pm_need_line an_need_line cd_need_line ct_need_line), sl_need_line⟩)
    (c_need_line : PySem.W.codeIn K cd_need_line "need_line" = true)
    (k_need_line : PySem.W.keepIn K (.ref f_need_line) = true)
    (a_need_lines : PySem.W.nsIn K mainGlobals "need_lines" = some (some (.ref f_need_lines)))
    (l_need_lines : K.lookup f_need_lines = some ⟨oc_need_lines, od_need_lines, .func (PySem.W.fnOf "need_lines" "need_lines" (defArgs s_need_lines) (defBody s_need_lines) (defScope s_need_lines) .none kV_need_lines dc_need_lines pm_need_lines an_need_lines cd_need_lines ct_need_lines), sl_need_lines⟩)
    (c_need_lines : PySem.W.codeIn K cd_need_lines "need_lines" = true)
    (k_need_lines : PySem.W.keepIn K (.ref f_need_lines) = true)
    (a_distances : PySem.W.nsIn K mainGlobals "distances" = some (some (.ref f_distances)))
    (l_distances : K.lookup f_distances = some ⟨oc_distances, od_distances, .func (PySem.W.fnOf "distances" "distances" (defArgs s_distances) (defBody s_distances) (defScope s_distances) .none kV_distances dc_distances pm_distances an_distances cd_distances ct_distances), sl_distances⟩)
    (c_distances : PySem.W.codeIn K cd_distances "distances" = true)
    (k_distances : PySem.W.keepIn K (.ref f_distances) = true)
    (a_Kept_touch : PySem.W.findIn K (.ref C_Kept) "touch" = some (some (.ref f_Kept_touch)))
    (i_Kept_touch : PySem.W.isFn K (.ref f_Kept_touch) = true)
    (l_Kept_touch : K.lookup f_Kept_touch = some ⟨oc_Kept_touch, od_Kept_touch, .func (PySem.W.fnOf "touch" "Kept.touch" (defArgs s_Kept_touch) (defBody s_Kept_touch) (defScope s_Kept_touch) .none kV_Kept_touch dc_Kept_touch pm_Kept_touch an_Kept_touch cd_Kept_touch ct_Kept_touch), sl_Kept_touch⟩)
    (c_Kept_touch : PySem.W.codeIn K cd_Kept_touch "Kept.touch" = true)
    (k_Kept_touch : PySem.W.keepIn K (.ref f_Kept_touch) = true)
    (a_missed : PySem.W.nsIn K mainGlobals "missed" = some (some (.ref f_missed)))
    (l_missed : K.lookup f_missed = some ⟨oc_missed, od_missed, .func (PySem.W.fnOf "missed" "missed" (defArgs s_missed) (defBody s_missed) (defScope s_missed) .none kV_missed dc_missed pm_missed an_missed cd_missed ct_missed), sl_missed⟩)
    (c_missed : PySem.W.codeIn K cd_missed "missed" = true)
    (k_missed : PySem.W.keepIn K (.ref f_missed) = true)
    (a_is_fetch : PySem.W.nsIn K mainGlobals "is_fetch" = some (some (.ref f_is_fetch)))
    (l_is_fetch : K.lookup f_is_fetch = some ⟨oc_is_fetch, od_is_fetch, .func (PySem.W.fnOf "is_fetch" "is_fetch" (defArgs s_is_fetch) (defBody s_is_fetch) (defScope s_is_fetch) .none kV_is_fetch dc_is_fetch pm_is_fetch an_is_fetch cd_is_fetch ct_is_fetch), sl_is_fetch⟩)
    (c_is_fetch : PySem.W.codeIn K cd_is_fetch "is_fetch" = true)
    (k_is_fetch : PySem.W.keepIn K (.ref f_is_fetch) = true)
    (a_need_bound : PySem.W.nsIn K mainGlobals "need_bound" = some (some (.ref f_need_bound)))
    (l_need_bound : K.lookup f_need_bound = some ⟨oc_need_bound, od_need_bound, .func (PySem.W.fnOf "need_bound" "need_bound" (defArgs s_need_bound) (defBody s_need_bound) (defScope s_need_bound) .none kV_need_bound dc_need_bound pm_need_bound an_need_bound cd_need_bound ct_need_bound), sl_need_bound⟩)
    (c_need_bound : PySem.W.codeIn K cd_need_bound "need_bound" = true)
    (k_need_bound : PySem.W.keepIn K (.ref f_need_bound) = true)
    (a_Kept_init : PySem.W.findIn K (.ref C_Kept) "__init__" = some (some (.ref f_Kept_init)))
    (i_Kept_init : PySem.W.isFn K (.ref f_Kept_init) = true)
    (l_Kept_init : K.lookup f_Kept_init = some ⟨oc_Kept_init, od_Kept_init, .func (PySem.W.fnOf "__init__" "Kept.__init__" (defArgs s_Kept_init) (defBody s_Kept_init) (defScope s_Kept_init) .none kV_Kept_init dc_Kept_init pm_Kept_init an_Kept_init cd_Kept_init ct_Kept_init), sl_Kept_init⟩)
    (c_Kept_init : PySem.W.codeIn K cd_Kept_init "Kept.__init__" = true)
    (k_Kept_init : PySem.W.keepIn K (.ref f_Kept_init) = true)
    (a_fetches : PySem.W.nsIn K mainGlobals "fetches" = some (some (.ref f_fetches)))
    (l_fetches : K.lookup f_fetches = some ⟨oc_fetches, od_fetches, .func (PySem.W.fnOf "fetches" "fetches" (defArgs s_fetches) (defBody s_fetches) (defScope s_fetches) .none kV_fetches dc_fetches pm_fetches an_fetches cd_fetches ct_fetches), sl_fetches⟩)
    (c_fetches : PySem.W.codeIn K cd_fetches "fetches" = true)
    (k_fetches : PySem.W.keepIn K (.ref f_fetches) = true)
    (a_how_many : PySem.W.nsIn K mainGlobals "how_many" = some (some (.ref f_how_many)))
    (l_how_many : K.lookup f_how_many = some ⟨oc_how_many, od_how_many, .func (PySem.W.fnOf "how_many" "how_many" (defArgs s_how_many) (defBody s_how_many) (defScope s_how_many) .none kV_how_many dc_how_many pm_how_many an_how_many cd_how_many ct_how_many), sl_how_many⟩)
    (c_how_many : PySem.W.codeIn K cd_how_many "how_many" = true)
    (k_how_many : PySem.W.keepIn K (.ref f_how_many) = true)
    (a_counts : PySem.W.nsIn K mainGlobals "counts" = some (some (.ref f_counts)))
    (l_counts : K.lookup f_counts = some ⟨oc_counts, od_counts, .func (PySem.W.fnOf "counts" "counts" (defArgs s_counts) (defBody s_counts) (defScope s_counts) .none kV_counts dc_counts pm_counts an_counts cd_counts ct_counts), sl_counts⟩)
    (c_counts : PySem.W.codeIn K cd_counts "counts" = true)
    (k_counts : PySem.W.keepIn K (.ref f_counts) = true)
    (a_is_fetches : PySem.W.nsIn K mainGlobals "is_fetches" = some (some (.ref f_is_fetches)))
    (l_is_fetches : K.lookup f_is_fetches = some ⟨oc_is_fetches, od_is_fetches, .func (PySem.W.fnOf "is_fetches" "is_fetches" (defArgs s_is_fetches) (defBody s_is_fetches) (defScope s_is_fetches) .none kV_is_fetches dc_is_fetches pm_is_fetches an_is_fetches cd_is_fetches ct_is_fetches), sl_is_fetches⟩)
    (c_is_fetches : PySem.W.codeIn K cd_is_fetches "is_fetches" = true)
    (k_is_fetches : PySem.W.keepIn K (.ref f_is_fetches) = true)
    (a_lines_of : PySem.W.nsIn K mainGlobals "lines_of" = some (some (.ref f_lines_of)))
    (l_lines_of : K.lookup f_lines_of = some ⟨oc_lines_of, od_lines_of, .func (PySem.W.fnOf "lines_of" "lines_of" (defArgs s_lines_of) (defBody s_lines_of) (defScope s_lines_of) .none kV_lines_of dc_lines_of pm_lines_of an_lines_of cd_lines_of ct_lines_of), sl_lines_of⟩)
    (c_lines_of : PySem.W.codeIn K cd_lines_of "lines_of" = true)
    (k_lines_of : PySem.W.keepIn K (.ref f_lines_of) = true)
    (a_law_asked : PySem.W.nsIn K mainGlobals "_law_asked" = some (some (.ref f_law_asked)))
    (l_law_asked : K.lookup f_law_asked = some ⟨oc_law_asked, od_law_asked, .func (PySem.W.fnOf "_law_asked" "_law_asked" (defArgs s_law_asked) (defBody s_law_asked) (defScope s_law_asked) .none kV_law_asked dc_law_asked pm_law_asked an_law_asked cd_law_asked ct_law_asked), sl_law_asked⟩)
    (c_law_asked : PySem.W.codeIn K cd_law_asked "_law_asked" = true)
    (k_law_asked : PySem.W.keepIn K (.ref f_law_asked) = true)
    (a_law_refused : PySem.W.nsIn K mainGlobals "_law_refused" = some (some (.ref f_law_refused)))
    (l_law_refused : K.lookup f_law_refused = some ⟨oc_law_refused, od_law_refused, .func (PySem.W.fnOf "_law_refused" "_law_refused" (defArgs s_law_refused) (defBody s_law_refused) (defScope s_law_refused) .none kV_law_refused dc_law_refused pm_law_refused an_law_refused cd_law_refused ct_law_refused), sl_law_refused⟩)
    (c_law_refused : PySem.W.codeIn K cd_law_refused "_law_refused" = true)
    (k_law_refused : PySem.W.keepIn K (.ref f_law_refused) = true)
    (a_law_bad : PySem.W.nsIn K mainGlobals "_law_bad" = some (some (.ref f_law_bad)))
    (l_law_bad : K.lookup f_law_bad = some ⟨oc_law_bad, od_law_bad, .func (PySem.W.fnOf "_law_bad" "_law_bad" (defArgs s_law_bad) (defBody s_law_bad) (defScope s_law_bad) .none kV_law_bad dc_law_bad pm_law_bad an_law_bad cd_law_bad ct_law_bad), sl_law_bad⟩)
    (c_law_bad : PySem.W.codeIn K cd_law_bad "_law_bad" = true)
    (k_law_bad : PySem.W.keepIn K (.ref f_law_bad) = true)
    (a_law_held : PySem.W.nsIn K mainGlobals "_law_held" = some (some (.ref f_law_held)))
    (l_law_held : K.lookup f_law_held = some ⟨oc_law_held, od_law_held, .func (PySem.W.fnOf "_law_held" "_law_held" (defArgs s_law_held) (defBody s_law_held) (defScope s_law_held) .none kV_law_held dc_law_held pm_law_held an_law_held cd_law_held ct_law_held), sl_law_held⟩)
    (c_law_held : PySem.W.codeIn K cd_law_held "_law_held" = true)
    (k_law_held : PySem.W.keepIn K (.ref f_law_held) = true)
    (a_looks_between : PySem.W.nsIn K mainGlobals "looks_between" = some (some (.ref f_looks_between)))
    (l_looks_between : K.lookup f_looks_between = some ⟨oc_looks_between, od_looks_between, .func (PySem.W.fnOf "looks_between" "looks_between" (defArgs s_looks_between) (defBody s_looks_between) (defScope s_looks_between) .none kV_looks_between dc_looks_between pm_looks_between an_looks_between cd_looks_between ct_looks_between), sl_looks_between⟩)
    (c_looks_between : PySem.W.codeIn K cd_looks_between "looks_between" = true)
    (k_looks_between : PySem.W.keepIn K (.ref f_looks_between) = true)
    (a_law_looks : PySem.W.nsIn K mainGlobals "_law_looks" = some (some (.ref f_law_looks)))
    (l_law_looks : K.lookup f_law_looks = some ⟨oc_law_looks, od_law_looks, .func (PySem.W.fnOf "_law_looks" "_law_looks" (defArgs s_law_looks) (defBody s_law_looks) (defScope s_law_looks) .none kV_law_looks dc_law_looks pm_law_looks an_law_looks cd_law_looks ct_law_looks), sl_law_looks⟩)
    (c_law_looks : PySem.W.codeIn K cd_law_looks "_law_looks" = true)
    (k_law_looks : PySem.W.keepIn K (.ref f_law_looks) = true)
    (a_law : PySem.W.nsIn K mainGlobals "law" = some (some (.ref f_law)))
    (l_law : K.lookup f_law = some ⟨oc_law, od_law, .func (PySem.W.fnOf "law" "law" (defArgs s_law) (defBody s_law) (defScope s_law) .none kV_law dc_law pm_law an_law cd_law ct_law), sl_law⟩)
    (c_law : PySem.W.codeIn K cd_law "law" = true)
    (k_law : PySem.W.keepIn K (.ref f_law) = true)
    (n_ValueError : PySem.W.nsIn K mainGlobals "ValueError" = some none)
    (n_bool : PySem.W.nsIn K mainGlobals "bool" = some none)
    (n_int : PySem.W.nsIn K mainGlobals "int" = some none)
    (n_isinstance : PySem.W.nsIn K mainGlobals "isinstance" = some none)
    (n_len : PySem.W.nsIn K mainGlobals "len" = some none)
    (n_list : PySem.W.nsIn K mainGlobals "list" = some none)
    (n_range : PySem.W.nsIn K mainGlobals "range" = some none)
    (n_repr : PySem.W.nsIn K mainGlobals "repr" = some none)
    (n_tuple : PySem.W.nsIn K mainGlobals "tuple" = some none)
    (n_zip : PySem.W.nsIn K mainGlobals "zip" = some none)
    {t_CELL_BITS : Tok} (q_CELL_BITS : PySem.W.nsIn K mainGlobals "CELL_BITS" = some (some (.int 8 t_CELL_BITS)))
    {t_MOST_BITS : Tok} (q_MOST_BITS : PySem.W.nsIn K mainGlobals "MOST_BITS" = some (some (.int 512 t_MOST_BITS)))
    {t_MOST_KEPT : Tok} (q_MOST_KEPT : PySem.W.nsIn K mainGlobals "MOST_KEPT" = some (some (.int 32 t_MOST_KEPT)))
    {t_TAG_BITS : Tok} (q_TAG_BITS : PySem.W.nsIn K mainGlobals "TAG_BITS" = some (some (.int 2 t_TAG_BITS)))
    {t_WIDEST_LINE : Tok} (q_WIDEST_LINE : PySem.W.nsIn K mainGlobals "WIDEST_LINE" = some (some (.int 64 t_WIDEST_LINE)))
    (ne_NoKeep_NoLine : (Value.ref C_NoKeep == Value.ref C_NoLine) = false)
    (ne_NoKeep_NoPlace : (Value.ref C_NoKeep == Value.ref C_NoPlace) = false)
    (ne_NoLine_NoKeep : (Value.ref C_NoLine == Value.ref C_NoKeep) = false)
    (ne_NoLine_NoPlace : (Value.ref C_NoLine == Value.ref C_NoPlace) = false)
    (ne_NoPlace_NoKeep : (Value.ref C_NoPlace == Value.ref C_NoKeep) = false)
    (ne_NoPlace_NoLine : (Value.ref C_NoPlace == Value.ref C_NoLine) = false)
    : ∃ fd : FuncData, (∀ (s : Shared) (v : Value), BindsTo s fd ⟨[v], []⟩ [("_law_script", v)]) ∧ ∀ base : Heap, K.In base → base.Ns mainGlobals mg → FnOkG l.prog w K mg base CX0 11 fa fd ["_law_script"] (spLaw K) := by
  have e := hfa.symm.trans (PySem.W.mg_of X G a_law)
  cases e
  have F_law_drawn := fun_mk (st := s_law_drawn) l_law_drawn c_law_drawn k_law_drawn
  have F_is_whole := fun_mk (st := s_is_whole) l_is_whole c_is_whole k_is_whole
  have F_is_within := fun_mk (st := s_is_within) l_is_within c_is_within k_is_within
  have F_NoLine_init := fun_mk (st := s_NoLine_init) l_NoLine_init c_NoLine_init k_NoLine_init
  have F_NoKeep_init := fun_mk (st := s_NoKeep_init) l_NoKeep_init c_NoKeep_init k_NoKeep_init
  have F_NoPlace_init := fun_mk (st := s_NoPlace_init) l_NoPlace_init c_NoPlace_init k_NoPlace_init
  have F_is_place := fun_mk (st := s_is_place) l_is_place c_is_place k_is_place
  have F_last_cell := fun_mk (st := s_last_cell) l_last_cell c_last_cell k_last_cell
  have F_need_place := fun_mk (st := s_need_place) l_need_place c_need_place k_need_place
  have F_cells_in := fun_mk (st := s_cells_in) l_cells_in c_cells_in k_cells_in
  have F_need_line := fun_mk (st := s_need_line) l_need_line c_need_line k_need_line
  have F_need_lines := fun_mk (st := s_need_lines) l_need_lines c_need_lines k_need_lines
  have F_distances := fun_mk (st := s_distances) l_distances c_distances k_distances
  have F_Kept_touch := fun_mk (st := s_Kept_touch) l_Kept_touch c_Kept_touch k_Kept_touch
  have F_missed := fun_mk (st := s_missed) l_missed c_missed k_missed
  have F_is_fetch := fun_mk (st := s_is_fetch) l_is_fetch c_is_fetch k_is_fetch
  have F_need_bound := fun_mk (st := s_need_bound) l_need_bound c_need_bound k_need_bound
  have F_Kept_init := fun_mk (st := s_Kept_init) l_Kept_init c_Kept_init k_Kept_init
  have F_fetches := fun_mk (st := s_fetches) l_fetches c_fetches k_fetches
  have F_how_many := fun_mk (st := s_how_many) l_how_many c_how_many k_how_many
  have F_counts := fun_mk (st := s_counts) l_counts c_counts k_counts
  have F_is_fetches := fun_mk (st := s_is_fetches) l_is_fetches c_is_fetches k_is_fetches
  have F_lines_of := fun_mk (st := s_lines_of) l_lines_of c_lines_of k_lines_of
  have F_law_asked := fun_mk (st := s_law_asked) l_law_asked c_law_asked k_law_asked
  have F_law_refused := fun_mk (st := s_law_refused) l_law_refused c_law_refused k_law_refused
  have F_law_bad := fun_mk (st := s_law_bad) l_law_bad c_law_bad k_law_bad
  have F_law_held := fun_mk (st := s_law_held) l_law_held c_law_held k_law_held
  have F_looks_between := fun_mk (st := s_looks_between) l_looks_between c_looks_between k_looks_between
  have F_law_looks := fun_mk (st := s_law_looks) l_law_looks c_law_looks k_law_looks
  have F_law := fun_mk (st := s_law) l_law c_law k_law
  have c_CELL_BITS : ∃ t, mg "CELL_BITS" = some (.int 8 t) := ⟨_, PySem.W.mg_of X G q_CELL_BITS⟩
  have c_MOST_BITS : ∃ t, mg "MOST_BITS" = some (.int 512 t) := ⟨_, PySem.W.mg_of X G q_MOST_BITS⟩
  have c_MOST_KEPT : ∃ t, mg "MOST_KEPT" = some (.int 32 t) := ⟨_, PySem.W.mg_of X G q_MOST_KEPT⟩
  have c_TAG_BITS : ∃ t, mg "TAG_BITS" = some (.int 2 t) := ⟨_, PySem.W.mg_of X G q_TAG_BITS⟩
  have c_WIDEST_LINE : ∃ t, mg "WIDEST_LINE" = some (.int 64 t) := ⟨_, PySem.W.mg_of X G q_WIDEST_LINE⟩
  have z_ValueError : mg "ValueError" = none := PySem.W.mg_none_of X G n_ValueError
  have z_bool : mg "bool" = none := PySem.W.mg_none_of X G n_bool
  have z_int : mg "int" = none := PySem.W.mg_none_of X G n_int
  have z_isinstance : mg "isinstance" = none := PySem.W.mg_none_of X G n_isinstance
  have z_len : mg "len" = none := PySem.W.mg_none_of X G n_len
  have z_list : mg "list" = none := PySem.W.mg_none_of X G n_list
  have z_range : mg "range" = none := PySem.W.mg_none_of X G n_range
  have z_repr : mg "repr" = none := PySem.W.mg_none_of X G n_repr
  have z_tuple : mg "tuple" = none := PySem.W.mg_none_of X G n_tuple
  have z_zip : mg "zip" = none := PySem.W.mg_none_of X G n_zip
  have K_Kept : Cls K C_Kept := ⟨pg_Kept, hd_Kept, po_Kept, sa_Kept⟩
  have G_NoKeep : mg "NoKeep" = some (.ref C_NoKeep) := PySem.W.mg_of X G aC_NoKeep
  have O_NoKeep : OexC K C_NoKeep := ⟨⟨_, _, _, _, _, _, _, _, _, _, _, _, _, _, _, xL_NoKeep, rfl⟩, sa_NoKeep, eC_NoKeep, tC_NoKeep, kC_NoKeep⟩
  have Y_NoKeep : XfC K C_NoKeep := ⟨ga_NoKeep, gg_NoKeep, eC_NoKeep, hC_NoKeep⟩
  have G_NoLine : mg "NoLine" = some (.ref C_NoLine) := PySem.W.mg_of X G aC_NoLine
  have O_NoLine : OexC K C_NoLine := ⟨⟨_, _, _, _, _, _, _, _, _, _, _, _, _, _, _, xL_NoLine, rfl⟩, sa_NoLine, eC_NoLine, tC_NoLine, kC_NoLine⟩
  have Y_NoLine : XfC K C_NoLine := ⟨ga_NoLine, gg_NoLine, eC_NoLine, hC_NoLine⟩
  have G_NoPlace : mg "NoPlace" = some (.ref C_NoPlace) := PySem.W.mg_of X G aC_NoPlace
  have O_NoPlace : OexC K C_NoPlace := ⟨⟨_, _, _, _, _, _, _, _, _, _, _, _, _, _, _, xL_NoPlace, rfl⟩, sa_NoPlace, eC_NoPlace, tC_NoPlace, kC_NoPlace⟩
  have Y_NoPlace : XfC K C_NoPlace := ⟨ga_NoPlace, gg_NoPlace, eC_NoPlace, hC_NoPlace⟩
  have G_RoomError : mg "RoomError" = some (.ref C_RoomError) := PySem.W.mg_of X G aC_RoomError
  have R_RoomError : ClX.CRead K C_RoomError (.type "type") := ⟨rd_RoomError, sg_RoomError⟩
  have V_RoomError := vf_RoomError
  have B_NoKeep_found := nb_NoKeep_found
  have B_NoLine_found := nb_NoLine_found
  have B_NoPlace_found := nb_NoPlace_found
  have E_NoKeep_RoomError : PySem.W.exmOne K (.ref C_NoKeep) (.ref C_RoomError) = some true := exm_of2 eC_RoomError hC_RoomError tC_RoomError su_NoKeep_RoomError
  have E_NoLine_RoomError : PySem.W.exmOne K (.ref C_NoLine) (.ref C_RoomError) = some true := exm_of2 eC_RoomError hC_RoomError tC_RoomError su_NoLine_RoomError
  have E_NoPlace_RoomError : PySem.W.exmOne K (.ref C_NoPlace) (.ref C_RoomError) = some true := exm_of2 eC_RoomError hC_RoomError tC_RoomError su_NoPlace_RoomError
  have I_NoKeep : ExcC K C_NoKeep := ⟨ga_NoKeep, gg_NoKeep, eC_NoKeep, hC_NoKeep, cl_NoKeep, oc_get, oc_tk, mo_NoKeep⟩
  have I_NoLine : ExcC K C_NoLine := ⟨ga_NoLine, gg_NoLine, eC_NoLine, hC_NoLine, cl_NoLine, oc_get, oc_tk, mo_NoLine⟩
  have I_NoPlace : ExcC K C_NoPlace := ⟨ga_NoPlace, gg_NoPlace, eC_NoPlace, hC_NoPlace, cl_NoPlace, oc_get, oc_tk, mo_NoPlace⟩
  have Q_NoKeep_NoKeep : PySem.W.kitOne K (.ref C_NoKeep) (.ref C_NoKeep) = some true := kit_yes hC_NoKeep tC_NoKeep su_NoKeep_NoKeep
  have Q_NoKeep_NoLine : PySem.W.kitOne K (.ref C_NoKeep) (.ref C_NoLine) = some false := kit_no hC_NoLine tC_NoLine su_NoKeep_NoLine ne_NoKeep_NoLine
  have Q_NoKeep_NoPlace : PySem.W.kitOne K (.ref C_NoKeep) (.ref C_NoPlace) = some false := kit_no hC_NoPlace tC_NoPlace su_NoKeep_NoPlace ne_NoKeep_NoPlace
  have Q_NoLine_NoKeep : PySem.W.kitOne K (.ref C_NoLine) (.ref C_NoKeep) = some false := kit_no hC_NoKeep tC_NoKeep su_NoLine_NoKeep ne_NoLine_NoKeep
  have Q_NoLine_NoLine : PySem.W.kitOne K (.ref C_NoLine) (.ref C_NoLine) = some true := kit_yes hC_NoLine tC_NoLine su_NoLine_NoLine
  have Q_NoLine_NoPlace : PySem.W.kitOne K (.ref C_NoLine) (.ref C_NoPlace) = some false := kit_no hC_NoPlace tC_NoPlace su_NoLine_NoPlace ne_NoLine_NoPlace
  have Q_NoPlace_NoKeep : PySem.W.kitOne K (.ref C_NoPlace) (.ref C_NoKeep) = some false := kit_no hC_NoKeep tC_NoKeep su_NoPlace_NoKeep ne_NoPlace_NoKeep
  have Q_NoPlace_NoLine : PySem.W.kitOne K (.ref C_NoPlace) (.ref C_NoLine) = some false := kit_no hC_NoLine tC_NoLine su_NoPlace_NoLine ne_NoPlace_NoLine
  have Q_NoPlace_NoPlace : PySem.W.kitOne K (.ref C_NoPlace) (.ref C_NoPlace) = some true := kit_yes hC_NoPlace tC_NoPlace su_NoPlace_NoPlace
  have U_NoKeep_ValueError : PySem.W.kitOne K (.ref C_NoKeep) (.type "ValueError") = some true := kit_blt sv_NoKeep_ValueError (by decide +kernel)
  have U_NoLine_ValueError : PySem.W.kitOne K (.ref C_NoLine) (.type "ValueError") = some true := kit_blt sv_NoLine_ValueError (by decide +kernel)
  have U_NoPlace_ValueError : PySem.W.kitOne K (.ref C_NoPlace) (.type "ValueError") = some true := kit_blt sv_NoPlace_ValueError (by decide +kernel)
  have A_Kept_bound : NoAttr K C_Kept "bound" := nA_Kept_bound
  have A_Kept_had : NoAttr K C_Kept "had" := nA_Kept_had
  refine ⟨PySem.W.fnOf "law" "law" (defArgs s_law) (defBody s_law) (defScope s_law) .none kV_law dc_law pm_law an_law cd_law ct_law, fun s v => .of_eq rfl, fun base _ _ => ?_⟩
  have D_law_drawn : Dn l.prog w K mg base CX0 1 "_law_drawn" ["_law_cell", "_law_sizes"] (spDrawn K) := ⟨⟨_, _, ok_drawn F_law_drawn, PySem.W.mg_of X G a_law_drawn, k_law_drawn, F_law_drawn.binds (ps := ["_law_cell", "_law_sizes"]) fun _ _ _ _ _ _ us hl => match us, hl with | [_, _], _ => rfl⟩⟩
  have D_is_whole : Dn l.prog w K mg base CX0 1 "is_whole" ["thing"] (spIsWhole K) := ⟨⟨_, _, ok_isWhole F_is_whole z_isinstance z_int z_bool, PySem.W.mg_of X G a_is_whole, k_is_whole, F_is_whole.binds (ps := ["thing"]) fun _ _ _ _ _ _ us hl => match us, hl with | [_], _ => rfl⟩⟩
  have D_is_within : Dn l.prog w K mg base CX0 2 "is_within" ["thing", "low", "high"] (spIsWithin K) := ⟨⟨_, _, ok_isWithin F_is_within D_is_whole, PySem.W.mg_of X G a_is_within, k_is_within, F_is_within.binds (ps := ["thing", "low", "high"]) fun _ _ _ _ _ _ us hl => match us, hl with | [_, _, _], _ => rfl⟩⟩
  have X_NoLine : Xn l.prog w K mg base 1 C_NoLine "NoLine" ["self", "found"] (spX C_NoLine ["found"]) := ⟨⟨O_NoLine, Y_NoLine⟩, ⟨_, _, a_NoLine_init, t_NoLine_init, ok_NoLine F_NoLine_init O_NoLine G_RoomError R_RoomError V_RoomError B_NoLine_found, G_NoLine, F_NoLine_init.binds (ps := ["self", "found"]) fun _ _ _ _ _ _ us hl => match us, hl with | [_, _], _ => rfl⟩⟩
  have X_NoKeep : Xn l.prog w K mg base 1 C_NoKeep "NoKeep" ["self", "found"] (spX C_NoKeep ["found"]) := ⟨⟨O_NoKeep, Y_NoKeep⟩, ⟨_, _, a_NoKeep_init, t_NoKeep_init, ok_NoKeep F_NoKeep_init O_NoKeep G_RoomError R_RoomError V_RoomError B_NoKeep_found, G_NoKeep, F_NoKeep_init.binds (ps := ["self", "found"]) fun _ _ _ _ _ _ us hl => match us, hl with | [_, _], _ => rfl⟩⟩
  have X_NoPlace : Xn l.prog w K mg base 1 C_NoPlace "NoPlace" ["self", "found"] (spX C_NoPlace ["found"]) := ⟨⟨O_NoPlace, Y_NoPlace⟩, ⟨_, _, a_NoPlace_init, t_NoPlace_init, ok_NoPlace F_NoPlace_init O_NoPlace G_RoomError R_RoomError V_RoomError B_NoPlace_found, G_NoPlace, F_NoPlace_init.binds (ps := ["self", "found"]) fun _ _ _ _ _ _ us hl => match us, hl with | [_, _], _ => rfl⟩⟩
  have D_is_place : Dn l.prog w K mg base CX0 2 "is_place" ["thing"] (spIsPlace K) := ⟨⟨_, _, ok_isPlace F_is_place z_isinstance z_tuple z_len c_TAG_BITS c_CELL_BITS c_MOST_BITS D_is_whole, PySem.W.mg_of X G a_is_place, k_is_place, F_is_place.binds (ps := ["thing"]) fun _ _ _ _ _ _ us hl => match us, hl with | [_], _ => rfl⟩⟩
  have D_last_cell : Dn l.prog w K mg base CX0 1 "last_cell" ["place"] (spLastCell K) := ⟨⟨_, _, ok_lastCell F_last_cell c_CELL_BITS, PySem.W.mg_of X G a_last_cell, k_last_cell, F_last_cell.binds (ps := ["place"]) fun _ _ _ _ _ _ us hl => match us, hl with | [_], _ => rfl⟩⟩
  have D_need_place : Dn l.prog w K mg base (L2.CX l.prog w) 3 "need_place" ["thing"] (spNeed K C_NoPlace) := ⟨⟨_, _, ok_need F_need_place D_is_place X_NoPlace, PySem.W.mg_of X G a_need_place, k_need_place, F_need_place.binds (ps := ["thing"]) fun _ _ _ _ _ _ us hl => match us, hl with | [_], _ => rfl⟩⟩
  have D_cells_in : Dn l.prog w K mg base (L2.CX l.prog w) 4 "cells_in" ["place"] (spCellsInX K C_NoPlace) := ⟨⟨_, _, ok_cellsInX F_cells_in z_range D_need_place D_last_cell, PySem.W.mg_of X G a_cells_in, k_cells_in, F_cells_in.binds (ps := ["place"]) fun _ _ _ _ _ _ us hl => match us, hl with | [_], _ => rfl⟩⟩
  have D_need_line : Dn l.prog w K mg base (L2.CX l.prog w) 3 "need_line" ["line"] (spNeedLine K C_NoLine) := ⟨⟨_, _, ok_needLine F_need_line D_is_whole X_NoLine, PySem.W.mg_of X G a_need_line, k_need_line, F_need_line.binds (ps := ["line"]) fun _ _ _ _ _ _ us hl => match us, hl with | [_], _ => rfl⟩⟩
  have D_need_lines : Dn l.prog w K mg base (L2.CX l.prog w) 4 "need_lines" ["lines"] (spNeedLines K C_NoLine) := ⟨⟨_, _, ok_needLines F_need_lines D_need_line, PySem.W.mg_of X G a_need_lines, k_need_lines, F_need_lines.binds (ps := ["lines"]) fun _ _ _ _ _ _ us hl => match us, hl with | [_], _ => rfl⟩⟩
  have D_distances : Dn l.prog w K mg base (L2.CX l.prog w) 5 "distances" ["lines"] (spDist K C_NoLine) := ⟨⟨_, _, ok_distances F_distances D_need_lines, PySem.W.mg_of X G a_distances, k_distances, F_distances.binds (ps := ["lines"]) fun _ _ _ _ _ _ us hl => match us, hl with | [_], _ => rfl⟩⟩
  have N_Kept_touch : Nn l.prog w K mg base CX0 1 C_Kept "touch" ["self", "line"] spNo := ⟨K_Kept, ⟨_, _, ⟨a_Kept_touch, i_Kept_touch, k_Kept_touch⟩, ok_touch F_Kept_touch, F_Kept_touch.binds (ps := ["self", "line"]) fun _ _ _ _ _ _ us hl => match us, hl with | [_, _], _ => rfl⟩⟩
  have D_missed : Dn l.prog w K mg base CX0 1 "missed" ["found", "bound"] spNo := ⟨⟨_, _, ok_missed F_missed, PySem.W.mg_of X G a_missed, k_missed, F_missed.binds (ps := ["found", "bound"]) fun _ _ _ _ _ _ us hl => match us, hl with | [_, _], _ => rfl⟩⟩
  have D_is_fetch : Dn l.prog w K mg base CX0 1 "is_fetch" ["row", "line", "due"] spNo := ⟨⟨_, _, ok_isFetch F_is_fetch, PySem.W.mg_of X G a_is_fetch, k_is_fetch, F_is_fetch.binds (ps := ["row", "line", "due"]) fun _ _ _ _ _ _ us hl => match us, hl with | [_, _, _], _ => rfl⟩⟩
  have D_need_bound : Dn l.prog w K mg base (L2.CX l.prog w) 3 "need_bound" ["most"] (spBoundBad K C_NoKeep) := ⟨⟨_, _, ok_needBound F_need_bound c_MOST_KEPT D_is_within X_NoKeep, PySem.W.mg_of X G a_need_bound, k_need_bound, F_need_bound.binds (ps := ["most"]) fun _ _ _ _ _ _ us hl => match us, hl with | [_], _ => rfl⟩⟩
  have M_Kept : Mn l.prog w K mg base (L2.CX l.prog w) 4 C_Kept "Kept" ["self", "most"] (spKInitBad K C_Kept C_NoKeep) := ⟨⟨_, _, ⟨mk_Kept, a_Kept_init, i_Kept_init, kc_Kept⟩, ok_kInit F_Kept_init K_Kept A_Kept_bound A_Kept_had D_need_bound, PySem.W.mg_of X G aC_Kept, F_Kept_init.binds (ps := ["self", "most"]) fun _ _ _ _ _ _ us hl => match us, hl with | [_, _], _ => rfl⟩⟩
  have D_fetches : Dn l.prog w K mg base (L2.CX l.prog w) 6 "fetches" ["lines", "most"] (spBad2 K C_NoLine C_NoKeep) := ⟨⟨_, _, ok_fetches F_fetches D_need_lines M_Kept N_Kept_touch, PySem.W.mg_of X G a_fetches, k_fetches, F_fetches.binds (ps := ["lines", "most"]) fun _ _ _ _ _ _ us hl => match us, hl with | [_, _], _ => rfl⟩⟩
  have D_how_many : Dn l.prog w K mg base (L2.CX l.prog w) 7 "how_many" ["lines", "most"] (spBad2 K C_NoLine C_NoKeep) := ⟨⟨_, _, ok_howMany F_how_many z_len D_fetches, PySem.W.mg_of X G a_how_many, k_how_many, F_how_many.binds (ps := ["lines", "most"]) fun _ _ _ _ _ _ us hl => match us, hl with | [_, _], _ => rfl⟩⟩
  have D_counts : Dn l.prog w K mg base (L2.CX l.prog w) 6 "counts" ["lines", "most"] (spBad2 K C_NoLine C_NoKeep) := ⟨⟨_, _, ok_counts F_counts z_range D_distances D_need_bound D_missed, PySem.W.mg_of X G a_counts, k_counts, F_counts.binds (ps := ["lines", "most"]) fun _ _ _ _ _ _ us hl => match us, hl with | [_, _], _ => rfl⟩⟩
  have D_is_fetches : Dn l.prog w K mg base (L2.CX l.prog w) 6 "is_fetches" ["lines", "most", "thing"] (spBad3 K C_NoLine C_NoKeep) := ⟨⟨_, _, ok_isFetches F_is_fetches z_isinstance z_list z_len z_zip D_need_lines M_Kept N_Kept_touch D_is_fetch, PySem.W.mg_of X G a_is_fetches, k_is_fetches, F_is_fetches.binds (ps := ["lines", "most", "thing"]) fun _ _ _ _ _ _ us hl => match us, hl with | [_, _, _], _ => rfl⟩⟩
  have D_lines_of : Dn l.prog w K mg base (L2.CX l.prog w) 6 "lines_of" ["places", "wide"] (spLinesBad K C_NoLine C_NoPlace) := ⟨⟨_, _, ok_linesOf F_lines_of z_range c_WIDEST_LINE D_is_within D_cells_in X_NoLine, PySem.W.mg_of X G a_lines_of, k_lines_of, F_lines_of.binds (ps := ["places", "wide"]) fun _ _ _ _ _ _ us hl => match us, hl with | [_, _], _ => rfl⟩⟩
  have D_law_asked : Dn l.prog w K mg base (L2.CX l.prog w) 8 "_law_asked" ["_law_which", "_law_lines", "_law_most"] (spAsked K C_NoLine C_NoKeep C_NoPlace) := ⟨⟨_, _, ok_asked F_law_asked D_fetches D_how_many D_counts D_is_fetches D_lines_of D_distances M_Kept, PySem.W.mg_of X G a_law_asked, k_law_asked, F_law_asked.binds (ps := ["_law_which", "_law_lines", "_law_most"]) fun _ _ _ _ _ _ us hl => match us, hl with | [_, _, _], _ => rfl⟩⟩
  have D_law_refused : DnG l.prog w K mg base CX0 9 "_law_refused" ["_law_which", "_law_lines", "_law_most", "_law_word", "_law_thing"] (spRefused K C_NoLine C_NoKeep C_NoPlace) := ⟨⟨_, _, ok_refused F_law_refused z_isinstance z_repr z_ValueError G_RoomError G_NoLine Y_NoLine I_NoLine B_NoLine_found E_NoLine_RoomError U_NoLine_ValueError G_NoKeep Y_NoKeep I_NoKeep B_NoKeep_found E_NoKeep_RoomError U_NoKeep_ValueError G_NoPlace Y_NoPlace I_NoPlace B_NoPlace_found E_NoPlace_RoomError U_NoPlace_ValueError Q_NoLine_NoLine Q_NoLine_NoKeep Q_NoLine_NoPlace Q_NoKeep_NoLine Q_NoKeep_NoKeep Q_NoKeep_NoPlace Q_NoPlace_NoLine Q_NoPlace_NoKeep Q_NoPlace_NoPlace D_law_asked, PySem.W.mg_of X G a_law_refused, k_law_refused, F_law_refused.binds (ps := ["_law_which", "_law_lines", "_law_most", "_law_word", "_law_thing"]) fun _ _ _ _ _ _ us hl => match us, hl with | [_, _, _, _, _], _ => rfl⟩⟩
  have D_law_bad : Dn l.prog w K mg base CX0 1 "_law_bad" ["_law_draws"] (spBad K) := ⟨⟨_, _, ok_bad F_law_bad, PySem.W.mg_of X G a_law_bad, k_law_bad, F_law_bad.binds (ps := ["_law_draws"]) fun _ _ _ _ _ _ us hl => match us, hl with | [_], _ => rfl⟩⟩
  have D_law_held : DnG l.prog w K mg base CX0 10 "_law_held" ["_law_draws"] (spOn K) := ⟨⟨_, _, ok_held F_law_held z_range D_law_bad D_law_refused, PySem.W.mg_of X G a_law_held, k_law_held, F_law_held.binds (ps := ["_law_draws"]) fun _ _ _ _ _ _ us hl => match us, hl with | [_], _ => rfl⟩⟩
  have D_looks_between : Dn l.prog w K mg base CX0 1 "looks_between" ["rows", "places", "first", "last"] (spBetween K) := ⟨⟨_, _, ok_between F_looks_between z_zip, PySem.W.mg_of X G a_looks_between, k_looks_between, F_looks_between.binds (ps := ["rows", "places", "first", "last"]) fun _ _ _ _ _ _ us hl => match us, hl with | [_, _, _, _], _ => rfl⟩⟩
  have D_law_looks : Dn l.prog w K mg base CX0 2 "_law_looks" ["_law_draws"] (spOn K) := ⟨⟨_, _, ok_looks F_law_looks z_range z_len z_list z_isinstance D_looks_between, PySem.W.mg_of X G a_law_looks, k_law_looks, F_law_looks.binds (ps := ["_law_draws"]) fun _ _ _ _ _ _ us hl => match us, hl with | [_], _ => rfl⟩⟩
  exact ok_law F_law z_len D_law_drawn D_law_held D_law_looks
end K52
open PySem PySem.W PyProof.Rows
set_option maxHeartbeats 0 in
theorem PySem.Challenge.cw_roomslaid_k52_lines_refused_and_looks_holds : PySem.Challenge.rw_roomslaid_k52_lines_refused_and_looks.Holds := by
  w_on; o_law; k_head; (case hw => w_witness2)
  k_fill
  refine Rg.walk_ofG (l := PySem.Challenge.rw_roomslaid_k52_lines_refused_and_looks) (n := 63) (k := 11) (x := "_law_script") (CX := fun _ => L2.CX0) (sp := fun w => K52.spLaw _) rfl (by decide) rfl ⟨rfl, by decide, by decide⟩ (fun w h Y => PySem.W.kIn_of Y) ?F (fun _ _ a ns hl _ hS => ⟨a, ns, rfl, hS, hl, fun _ => rfl⟩) (fun _ _ _ _ _ h => h)
  case F =>
    intro w mg fa h KX G hmg
    refine' K52.all_mk KX G hmg ?aC_NoKeep ?eC_NoKeep ?tC_NoKeep ?hC_NoKeep ?xL_NoKeep ?sa_NoKeep ?ga_NoKeep ?gg_NoKeep ?kC_NoKeep ?aC_NoLine ?eC_NoLine ?tC_NoLine ?hC_NoLine ?xL_NoLine ?sa_NoLine ?ga_NoLine ?gg_NoLine ?kC_NoLine ?aC_NoPlace ?eC_NoPlace ?tC_NoPlace ?hC_NoPlace ?xL_NoPlace ?sa_NoPlace ?ga_NoPlace ?gg_NoPlace ?kC_NoPlace ?aC_RoomError ?eC_RoomError ?tC_RoomError ?hC_RoomError ?rd_RoomError ?sg_RoomError ?vf_RoomError ?nb_NoKeep_found ?nb_NoLine_found ?nb_NoPlace_found ?oc_get ?oc_tk ?cl_NoKeep ?mo_NoKeep ?cl_NoLine ?mo_NoLine ?cl_NoPlace ?mo_NoPlace ?sv_NoKeep_ValueError ?sv_NoLine_ValueError ?sv_NoPlace_ValueError ?su_NoKeep_NoKeep ?su_NoKeep_NoLine ?su_NoKeep_NoPlace ?su_NoKeep_RoomError ?su_NoLine_NoKeep ?su_NoLine_NoLine ?su_NoLine_NoPlace ?su_NoLine_RoomError ?su_NoPlace_NoKeep ?su_NoPlace_NoLine ?su_NoPlace_NoPlace ?su_NoPlace_RoomError ?aC_Kept ?pg_Kept ?hd_Kept ?po_Kept ?sa_Kept ?mk_Kept ?kc_Kept ?nA_Kept_bound ?nA_Kept_had ?a_law_drawn ?l_law_drawn ?c_law_drawn ?k_law_drawn ?a_is_whole ?l_is_whole ?c_is_whole ?k_is_whole ?a_is_within ?l_is_within ?c_is_within ?k_is_within ?a_NoLine_init ?t_NoLine_init ?l_NoLine_init ?c_NoLine_init ?k_NoLine_init ?a_NoKeep_init ?t_NoKeep_init ?l_NoKeep_init ?c_NoKeep_init ?k_NoKeep_init ?a_NoPlace_init ?t_NoPlace_init ?l_NoPlace_init ?c_NoPlace_init ?k_NoPlace_init ?a_is_place ?l_is_place ?c_is_place ?k_is_place ?a_last_cell ?l_last_cell ?c_last_cell ?k_last_cell ?a_need_place ?l_need_place ?c_need_place ?k_need_place ?a_cells_in ?l_cells_in ?c_cells_in ?k_cells_in ?a_need_line ?l_need_line ?c_need_line ?k_need_line ?a_need_lines ?l_need_lines ?c_need_lines ?k_need_lines ?a_distances ?l_distances ?c_distances ?k_distances ?a_Kept_touch ?i_Kept_touch ?l_Kept_touch ?c_Kept_touch ?k_Kept_touch ?a_missed ?l_missed ?c_missed ?k_missed ?a_is_fetch ?l_is_fetch ?c_is_fetch ?k_is_fetch ?a_need_bound ?l_need_bound ?c_need_bound ?k_need_bound ?a_Kept_init ?i_Kept_init ?l_Kept_init ?c_Kept_init ?k_Kept_init ?a_fetches ?l_fetches ?c_fetches ?k_fetches ?a_how_many ?l_how_many ?c_how_many ?k_how_many ?a_counts ?l_counts ?c_counts ?k_counts ?a_is_fetches ?l_is_fetches ?c_is_fetches ?k_is_fetches ?a_lines_of ?l_lines_of ?c_lines_of ?k_lines_of ?a_law_asked ?l_law_asked ?c_law_asked ?k_law_asked ?a_law_refused ?l_law_refused ?c_law_refused ?k_law_refused ?a_law_bad ?l_law_bad ?c_law_bad ?k_law_bad ?a_law_held ?l_law_held ?c_law_held ?k_law_held ?a_looks_between ?l_looks_between ?c_looks_between ?k_looks_between ?a_law_looks ?l_law_looks ?c_law_looks ?k_law_looks ?a_law ?l_law ?c_law ?k_law ?n_ValueError ?n_bool ?n_int ?n_isinstance ?n_len ?n_list ?n_range ?n_repr ?n_tuple ?n_zip ?q_CELL_BITS ?q_MOST_BITS ?q_MOST_KEPT ?q_TAG_BITS ?q_WIDEST_LINE ?ne_NoKeep_NoLine ?ne_NoKeep_NoPlace ?ne_NoLine_NoKeep ?ne_NoLine_NoPlace ?ne_NoPlace_NoKeep ?ne_NoPlace_NoLine
    (case aC_NoKeep => k_is)
    (case eC_NoKeep => k_is)
    (case tC_NoKeep => k_is)
    (case hC_NoKeep => k_is)
    (case xL_NoKeep => k_is)
    (case sa_NoKeep => k_is)
    (case ga_NoKeep => k_is)
    (case gg_NoKeep => k_is)
    (case kC_NoKeep => k_is)
    (case aC_NoLine => k_is)
    (case eC_NoLine => k_is)
    (case tC_NoLine => k_is)
    (case hC_NoLine => k_is)
    (case xL_NoLine => k_is)
    (case sa_NoLine => k_is)
    (case ga_NoLine => k_is)
    (case gg_NoLine => k_is)
    (case kC_NoLine => k_is)
    (case aC_NoPlace => k_is)
    (case eC_NoPlace => k_is)
    (case tC_NoPlace => k_is)
    (case hC_NoPlace => k_is)
    (case xL_NoPlace => k_is)
    (case sa_NoPlace => k_is)
    (case ga_NoPlace => k_is)
    (case gg_NoPlace => k_is)
    (case kC_NoPlace => k_is)
    (case aC_RoomError => k_is)
    (case eC_RoomError => k_is)
    (case tC_RoomError => k_is)
    (case hC_RoomError => k_is)
    (case rd_RoomError => k_is)
    (case sg_RoomError => k_is)
    (case vf_RoomError => k_is)
    (case nb_NoKeep_found => k_is)
    (case nb_NoLine_found => k_is)
    (case nb_NoPlace_found => k_is)
    (case oc_get => k_is)
    (case oc_tk => k_is)
    (case cl_NoKeep => k_is)
    (case mo_NoKeep => k_is)
    (case cl_NoLine => k_is)
    (case mo_NoLine => k_is)
    (case cl_NoPlace => k_is)
    (case mo_NoPlace => k_is)
    (case sv_NoKeep_ValueError => k_is)
    (case sv_NoLine_ValueError => k_is)
    (case sv_NoPlace_ValueError => k_is)
    (case su_NoKeep_NoKeep => k_is)
    (case su_NoKeep_NoLine => k_is)
    (case su_NoKeep_NoPlace => k_is)
    (case su_NoKeep_RoomError => k_is)
    (case su_NoLine_NoKeep => k_is)
    (case su_NoLine_NoLine => k_is)
    (case su_NoLine_NoPlace => k_is)
    (case su_NoLine_RoomError => k_is)
    (case su_NoPlace_NoKeep => k_is)
    (case su_NoPlace_NoLine => k_is)
    (case su_NoPlace_NoPlace => k_is)
    (case su_NoPlace_RoomError => k_is)
    (case aC_Kept => k_is)
    (case pg_Kept => k_is)
    (case hd_Kept => k_is)
    (case po_Kept => k_is)
    (case sa_Kept => k_is)
    (case mk_Kept => k_is)
    (case kc_Kept => k_is)
    (case nA_Kept_bound => k_is)
    (case nA_Kept_had => k_is)
    (case a_law_drawn => k_is)
    (case l_law_drawn => k_is)
    (case c_law_drawn => k_is)
    (case k_law_drawn => k_is)
    (case a_is_whole => k_is)
    (case l_is_whole => k_is)
    (case c_is_whole => k_is)
    (case k_is_whole => k_is)
    (case a_is_within => k_is)
    (case l_is_within => k_is)
    (case c_is_within => k_is)
    (case k_is_within => k_is)
    (case a_NoLine_init => k_is)
    (case t_NoLine_init => k_is)
    (case l_NoLine_init => k_is)
    (case c_NoLine_init => k_is)
    (case k_NoLine_init => k_is)
    (case a_NoKeep_init => k_is)
    (case t_NoKeep_init => k_is)
    (case l_NoKeep_init => k_is)
    (case c_NoKeep_init => k_is)
    (case k_NoKeep_init => k_is)
    (case a_NoPlace_init => k_is)
    (case t_NoPlace_init => k_is)
    (case l_NoPlace_init => k_is)
    (case c_NoPlace_init => k_is)
    (case k_NoPlace_init => k_is)
    (case a_is_place => k_is)
    (case l_is_place => k_is)
    (case c_is_place => k_is)
    (case k_is_place => k_is)
    (case a_last_cell => k_is)
    (case l_last_cell => k_is)
    (case c_last_cell => k_is)
    (case k_last_cell => k_is)
    (case a_need_place => k_is)
    (case l_need_place => k_is)
    (case c_need_place => k_is)
    (case k_need_place => k_is)
    (case a_cells_in => k_is)
    (case l_cells_in => k_is)
    (case c_cells_in => k_is)
    (case k_cells_in => k_is)
    (case a_need_line => k_is)
    (case l_need_line => k_is)
    (case c_need_line => k_is)
    (case k_need_line => k_is)
    (case a_need_lines => k_is)
    (case l_need_lines => k_is)
    (case c_need_lines => k_is)
    (case k_need_lines => k_is)
    (case a_distances => k_is)
    (case l_distances => k_is)
    (case c_distances => k_is)
    (case k_distances => k_is)
    (case a_Kept_touch => k_is)
    (case i_Kept_touch => k_is)
    (case l_Kept_touch => k_is)
    (case c_Kept_touch => k_is)
    (case k_Kept_touch => k_is)
    (case a_missed => k_is)
    (case l_missed => k_is)
    (case c_missed => k_is)
    (case k_missed => k_is)
    (case a_is_fetch => k_is)
    (case l_is_fetch => k_is)
    (case c_is_fetch => k_is)
    (case k_is_fetch => k_is)
    (case a_need_bound => k_is)
    (case l_need_bound => k_is)
    (case c_need_bound => k_is)
    (case k_need_bound => k_is)
    (case a_Kept_init => k_is)
    (case i_Kept_init => k_is)
    (case l_Kept_init => k_is)
    (case c_Kept_init => k_is)
    (case k_Kept_init => k_is)
    (case a_fetches => k_is)
    (case l_fetches => k_is)
    (case c_fetches => k_is)
    (case k_fetches => k_is)
    (case a_how_many => k_is)
    (case l_how_many => k_is)
    (case c_how_many => k_is)
    (case k_how_many => k_is)
    (case a_counts => k_is)
    (case l_counts => k_is)
    (case c_counts => k_is)
    (case k_counts => k_is)
    (case a_is_fetches => k_is)
    (case l_is_fetches => k_is)
    (case c_is_fetches => k_is)
    (case k_is_fetches => k_is)
    (case a_lines_of => k_is)
    (case l_lines_of => k_is)
    (case c_lines_of => k_is)
    (case k_lines_of => k_is)
    (case a_law_asked => k_is)
    (case l_law_asked => k_is)
    (case c_law_asked => k_is)
    (case k_law_asked => k_is)
    (case a_law_refused => k_is)
    (case l_law_refused => k_is)
    (case c_law_refused => k_is)
    (case k_law_refused => k_is)
    (case a_law_bad => k_is)
    (case l_law_bad => k_is)
    (case c_law_bad => k_is)
    (case k_law_bad => k_is)
    (case a_law_held => k_is)
    (case l_law_held => k_is)
    (case c_law_held => k_is)
    (case k_law_held => k_is)
    (case a_looks_between => k_is)
    (case l_looks_between => k_is)
    (case c_looks_between => k_is)
    (case k_looks_between => k_is)
    (case a_law_looks => k_is)
    (case l_law_looks => k_is)
    (case c_law_looks => k_is)
    (case k_law_looks => k_is)
    (case a_law => k_is)
    (case l_law => k_is)
    (case c_law => k_is)
    (case k_law => k_is)
    (case n_ValueError => k_is)
    (case n_bool => k_is)
    (case n_int => k_is)
    (case n_isinstance => k_is)
    (case n_len => k_is)
    (case n_list => k_is)
    (case n_range => k_is)
    (case n_repr => k_is)
    (case n_tuple => k_is)
    (case n_zip => k_is)
    (case q_CELL_BITS => k_is)
    (case q_MOST_BITS => k_is)
    (case q_MOST_KEPT => k_is)
    (case q_TAG_BITS => k_is)
    (case q_WIDEST_LINE => k_is)
    (case ne_NoKeep_NoLine => decide +kernel)
    (case ne_NoKeep_NoPlace => decide +kernel)
    (case ne_NoLine_NoKeep => decide +kernel)
    (case ne_NoLine_NoPlace => decide +kernel)
    (case ne_NoPlace_NoKeep => decide +kernel)
    (case ne_NoPlace_NoLine => decide +kernel)
