import PyProof.Rows.All
import Wide.All
import OpenK.AllK
import Wide.FinOn
import HandS.ForMost
import HandS.NoneIn
import HandS.IsInst
import HandS.Wide
import HandS.WideBits
import HandS.More
import HandS.SetFor
import PyProof.LongRange
import HandS.Zip
import HandS.Style
import HandS.Text
import HandS.Exc
import HandS.TryOnly
import HandS.TryMany
import HandS.ExcOwn
import HandS.WordsExc
import HandS.ExcInit
import HandS.ExcField
import HandS.ClsMeth
import HandS.ExcIs
import HandS.Codes
import HandS.StrMore
import PyProof.ReprRoads
import HandS.RaiseMore
import HandS.DeepEq
import KE.KExcIs
import HandS.Conv
import HandS.Sort
import PyProof.StrOps2
import HandS.TupAny
import HandS.Flow
import KE.GoesEnum
import HandS.Strs
import HandS.Walk
import PySem.Challenge.RW_roomslaid_k10_whole_leaves_apart
set_option Elab.async false
set_option linter.all false
set_option maxRecDepth 100000
set_option maxHeartbeats 4000000
/-! my base: short calls, heaps, readings by simp -/
namespace Rb
open PySem PySem.Spec PyProof.Rows L2

/-! ### a def of the text with its promise -/
structure Dn (P : Program) (w : World) (K : PySem.W.Frag) (mg : Str → Option Value) (base : Heap) (CX : CXT) (k : Nat) (x : Str) (ps : List Str) (sp : Sp) : Prop where
  ex : ∃ f fd, FnOk P w K mg base CX k f fd ps sp ∧ mg x = some (.ref f) ∧ PySem.W.keepIn K (.ref f) = true ∧ Binds K fd ps []
section
variable {X : Cx} {CX : CXT} {k : Nat} {ps : List Str} {sp : Sp} {E : XK} {x : Str} {p pos : Pos} {e : Expr} {es : List Expr} {t : TA}
theorem pe_cd (D : Dn X.prog X.w X.K X.mg X.base CX k x ps sp) (hr : Room k X.A) (hg : Gl X x) (hx : Passes CX X E) (ha : PA X (e :: es) t)
    (hdb : (x == ("__debug__" : Str)) = false := by decide) (he : starEach (e :: es) X.env = (false, eval e X.env) :: starEach es X.env := by rfl) (hpl : (backTo pos (starEach es X.env)).any (·.1) = false := by rfl) :
    PE X (.Call (.Name x p) (e :: es) [] pos) (tCall sp [] E t) := by
  obtain ⟨f, fd, F, m, kp, b⟩ := D.ex
  exact pe_call F hr hg m kp b .nil hx ha hdb he hpl
theorem pe_cd0 (D : Dn X.prog X.w X.K X.mg X.base CX k x ps sp) (hr : Room k X.A) (hg : Gl X x) (hx : Passes CX X E)
    (hdb : (x == ("__debug__" : Str)) = false := by decide) : PE X (.Call (.Name x p) [] [] pos) (tCall sp [] E tNil) := by
  obtain ⟨f, fd, F, m, kp, b⟩ := D.ex
  exact pe_call0 F hr hg m kp b .nil hx hdb
end

/-! ### heaps -/
/-- all but a is as it was -/
def Off (a : Addr) (H H' : Hp) : Prop := ∀ b o, b ≠ a → H b = some o → H' b = some o
theorem Off.refl {a : Addr} (H : Hp) : Off a H H := fun _ _ _ h => h
theorem Off.trans {a : Addr} {H H1 H2 : Hp} (p : Off a H H1) (q : Off a H1 H2) : Off a H H2 := fun b o n h => q b o n (p b o n h)
theorem Off.of {a : Addr} {H H' : Hp} (s : Same H H') : Off a H H' := fun b o _ h => s b o h
theorem Off.upd {a : Addr} {H : Hp} {o : HO} : Off a H (upd H a o) := fun b u n h => by rw [upd_ne n]; exact h
theorem Off.at {a b : Addr} {H H' : Hp} {o u : HO} (f : Off a H H') (h : H b = some o) (ha : H a = some u) (ne : o ≠ u) : H' b = some o := f b o (ne_of h ha ne) h
theorem same_new {H : Hp} {p : Addr} {o : HO} (h : H p = none) : Same H (upd H p o) := fun b u e => by rw [upd_ne (ne_of_none e h)]; exact e
/-- a new object: its place, the heap from then on -/
theorem new_intro {H : Hp} {o : HO} {Q : VK} (h : ∀ p H1, H p = none → Same H H1 → H1 p = some o → Q (.ref p) H1) : ∀ p, H p = none → Q (.ref p) (upd H p o) := fun p hp => h p _ hp (same_new hp) upd_same
theorem Same.rd {H H' : Hp} {a : Addr} {u : HO} (s : Same H H') (h : Rd H a u) : Rd H' a u := by
  rcases h with h | ⟨o, h⟩
  · exact .inl (s _ _ h)
  · exact .inr ⟨o, s _ _ h⟩
theorem Same.seqT {K : PySem.W.Frag} {H H' : Hp} {a : Addr} {xs : List V} (e : Same H H') (h : SqT K H a xs) : SqT K H' a xs := by
  rcases h with h | h
  · exact .inl (Same.rd e h)
  · exact .inr h
theorem seq_of {K : PySem.W.Frag} {H : Hp} {a : Addr} {xs : List V} (h : H a = some (.lst xs)) : SqL K H a xs := .inl (.inl h)
theorem seqT_of {K : PySem.W.Frag} {H : Hp} {a : Addr} {xs : List V} (h : H a = some (.tup xs)) : SqT K H a xs := .inl (.inl h)
theorem Off.seq {K : PySem.W.Frag} {a b : Addr} {H H' : Hp} {xs ys : List V} (f : Off a H H') (h : SqL K H b xs) (ha : H a = some (.lst ys)) (hb : b ≠ a) : SqL K H' b xs := by
  rcases h with (h | ⟨o, h⟩) | h
  · exact .inl (.inl (f _ _ hb h))
  · exact .inl (.inr ⟨o, f _ _ hb h⟩)
  · exact .inr h
theorem Off.frz {a b : Addr} {H H' : Hp} {o : Obj} {u : HO} {ys : List V} (f : Off a H H') (h : H b = some (.frz o u)) (ha : H a = some (.lst ys)) : H' b = some (.frz o u) := f.at h ha (by intro z; cases z)
/-- made since H, changed as one likes -/
theorem Same.mut {H H' : Hp} {p : Addr} {o : HO} (s : Same H H') (h : H p = none) : Same H (upd H' p o) := fun b u e => by rw [upd_ne (ne_of_none e h)]; exact s b u e
theorem Same.off {a : Addr} {H H1 H2 : Hp} (s : Same H H1) (h : H a = none) (f : Off a H1 H2) : Same H H2 := fun b u e => f b u (ne_of_none e h) (s b u e)
theorem none_back {H H' : Hp} {p : Addr} (s : Same H H') (h : H' p = none) : H p = none := s.free h
theorem Off.none {a p : Addr} {H H' : Hp} {u : HO} (f : Off a H H') (ha : H a = some u) (ha' : H' p = Option.none) (h' : ∃ o, H' a = some o) : H p = Option.none := by
  cases q : H p with
  | none => rfl
  | some o =>
    by_cases e : p = a
    · subst e
      obtain ⟨o', h'⟩ := h'
      rw [h'] at ha'; cases ha'
    · rw [f p o e q] at ha'; cases ha'
/-! ### what comes new, what is changed: told by letters -/
def New (H : Hp) (o : HO) (R : Addr → Hp → Prop) : Prop := ∀ p, H p = none → R p (upd H p o)
theorem New.intro {H : Hp} {o : HO} {R : Addr → Hp → Prop} (h : ∀ p H2, H p = none → Same H H2 → H2 p = some o → R p H2) : New H o R := fun p hp => h p _ hp (same_new hp) upd_same
def Upd (H : Hp) (a : Addr) (o : HO) (R : Hp → Prop) : Prop := R (upd H a o)
theorem Upd.intro {H : Hp} {a : Addr} {o : HO} {R : Hp → Prop} (h : ∀ H2, Off a H H2 → H2 a = some o → R H2) : Upd H a o R := h _ Off.upd upd_same
def Loop (J : It) (g : TG) (tb : TS) (D : Ends) (σ : L2.St) (H : Hp) : Prop := ∃ W : Nat → Nat → L2.St → Hp → Prop, (∃ m, W 0 m σ H) ∧ ∀ i m σ H, W i m σ H →
  (J.stop i H ∧ D.nx σ H) ∨ (J.go i H ∧ ∃ N : L2.St → Hp → Prop, (∀ σ' H', N σ' H' → ∃ m', m' < m ∧ W (i + 1) m' σ' H') ∧ ∀ x H', J.yld i H x H' → g x σ H' fun σ2 H2 => tb { D with nx := N, ct := N, bk := D.nx } σ2 H2)
def Cmp (J : It) (g : TG) (tt : TT) (te : TE) (vs : List Nat) (σ : L2.St) (H1 : Hp) (Q : VK) : Prop := ∀ D, H1 D = none → ∃ W : Nat → Nat → Hp → Prop, (∃ m, W 0 m (upd H1 D (.lst []))) ∧ ∀ i m H, W i m H →
  (J.stop i H ∧ Q (.ref D) H) ∨ (J.go i H ∧ ∃ Nx : Hp → Prop, (∀ H', Nx H' → ∃ m', m' < m ∧ W (i + 1) m' H') ∧ ∀ x H', J.yld i H x H' → g x (wipe σ vs) H' fun σ2 H2 => wipe σ2 vs = wipe σ vs ∧ tt σ2 H2 fun b H3 =>
    if b = true then te σ2 H3 fun y H4 => ∃ acc, H4 D = some (.lst acc) ∧ acc.length < sizeLine ∧ Nx (upd H4 D (.lst (acc ++ [y]))) else Nx H3)
theorem tTup_n {t : TA} : tTup t = fun σ H Q => t σ H fun xs H1 => xs.length ≤ sizeLine ∧ New H1 (.tup xs) fun p H2 => Q (.ref p) H2 := rfl
theorem tLst_n {t : TA} : tLst t = fun σ H Q => t σ H fun xs H1 => xs.length ≤ sizeLine ∧ New H1 (.lst xs) fun p H2 => Q (.ref p) H2 := rfl
theorem rSlL_n {K : PySem.W.Frag} : rSlL K = fun x lo hi H Q => ∃ a xs, x = .ref a ∧ SqL K H a xs ∧ New H (.lst (cutV xs lo hi)) fun p H2 => Q (.ref p) H2 := rfl
theorem rAppend_n : rAppend = fun x vs H Q => ∃ l xs y, x = .ref l ∧ vs = [y] ∧ H l = some (.lst xs) ∧ xs.length < sizeLine ∧ Upd H l (.lst (xs ++ [y])) fun H2 => Q .non H2 := rfl
theorem rExtend_n : rExtend = fun x vs H Q => ∃ l b xs zs, x = .ref l ∧ vs = [.ref b] ∧ H l = some (.lst xs) ∧ H b = some (.lst zs) ∧ xs.length + zs.length ≤ sizeLine ∧ Upd H l (.lst (xs ++ zs)) fun H2 => Q .non H2 := rfl
theorem rPop_n : rPop = fun x vs H Q => ∃ l xs y, x = .ref l ∧ vs = [] ∧ H l = some (.lst xs) ∧ xs[xs.length - 1]? = some y ∧ Upd H l (.lst xs.dropLast) fun H2 => Q y H2 := rfl
theorem rClear_n : rClear = fun x vs H Q => ∃ l xs, x = .ref l ∧ vs = [] ∧ H l = some (.lst xs) ∧ Upd H l (.lst []) fun H2 => Q .non H2 := rfl
theorem rSetL_n : rSetL = fun o i v H Q => ∃ p xs k j, o = .ref p ∧ i = .int k ∧ H p = some (.lst xs) ∧ ixN xs.length k = some j ∧ Upd H p (.lst (xs.set j v)) fun H2 => Q H2 := rfl
theorem tFor_n {wi : TI} {g : TG} {tb : TS} : tFor wi g tb = fun D σ H => wi σ H fun J H1 => Loop J g tb D σ H1 := rfl
theorem tLc_n {wi : TI} {g : TG} {tt : TT} {te : TE} {vs : List Nat} : tLc wi g tt te vs = fun σ H Q => wi σ H fun J H1 => Cmp J g tt te vs σ H1 Q := rfl
/-! built-ins, by letters -/
def rDivmod : List V → Hp → VK → Prop := fun xs H Q => ∃ i j, xs = [.int i, .int j] ∧ CDiv i j ∧ New H (.tup [.int (i / j), .int (i % j)]) fun p H2 => Q (.ref p) H2
theorem call_divmodR {X : Cx} : CallR X (.builtin "divmod") rDivmod := call_divmod
def rListOf (K : PySem.W.Frag) : List V → Hp → VK → Prop := fun xs H Q => ∃ p ys, xs = [.ref p] ∧ (SqL K H p ys ∨ SqT K H p ys) ∧ New H (.lst ys) fun l H2 => Q (.ref l) H2
theorem call_listR {X : Cx} {K : PySem.W.Frag} (h : X.K = K := by rfl) : CallR X (.type "list") (rListOf K) := by subst h; exact call_list_of
def rTupOf (K : PySem.W.Frag) : List V → Hp → VK → Prop := fun xs H Q => ∃ p ys, xs = [.ref p] ∧ ((SqL K H p ys ∧ New H (.tup ys) fun l H2 => Q (.ref l) H2) ∨ (SqT K H p ys ∧ Q (.ref p) H))
theorem call_tupR {X : Cx} {K : PySem.W.Frag} (h : X.K = K := by rfl) : CallR X (.type "tuple") (rTupOf K) := by subst h; exact call_tuple_of
def rLenSeq (K : PySem.W.Frag) : List V → Hp → VK → Prop := fun xs H Q => ∃ p ys, xs = [.ref p] ∧ (SqL K H p ys ∨ SqT K H p ys) ∧ Q (.int ys.length) H
theorem call_lenR {X : Cx} {K : PySem.W.Frag} (h : X.K = K := by rfl) : CallR X (.builtin "len") (rLenSeq K) := by subst h; exact call_len_seq
def rMin2 : List V → Hp → VK → Prop := fun xs H Q => ∃ i j, xs = [.int i, .int j] ∧ Q (.int (if j < i then j else i)) H
def rMax2 : List V → Hp → VK → Prop := fun xs H Q => ∃ i j, xs = [.int i, .int j] ∧ Q (.int (if j > i then j else i)) H
theorem call_min2R {X : Cx} (hc : X.calm = true) : CallR X (.builtin "min") rMin2 := call_min2 hc
theorem call_max2R {X : Cx} (hc : X.calm = true) : CallR X (.builtin "max") rMax2 := call_max2 hc

theorem snocI {α : Type} {P : List α → Prop} (h0 : P []) (h1 : ∀ xs x, P xs → P (xs ++ [x])) (l : List α) : P l := by
  have h : ∀ r : List α, P r.reverse := fun r => by
    induction r with
    | nil => exact h0
    | cons x r ih =>
      rw [List.reverse_cons]
      exact h1 _ _ ih
  rw [← List.reverse_reverse l]
  exact h _
/-! ### kinds of things -/
def kinds : List String := ["NoneType", "bool", "int", "str", "list", "tuple", "dict"]
def kindIs (T U : String) : Bool := T == U || (T == "bool" && U == "int")
theorem kd_all : ∀ T ∈ kinds, ∀ U ∈ ["bool", "int", "str", "list", "tuple", "dict"], kitB T U = some (kindIs T U) := by decide +kernel
def Thg (K : PySem.W.Frag) (H : Hp) (x : V) (T : String) : Prop := TyX K H x (.type T) ∧ T ∈ kinds
def isWh : V → Bool
  | .int _ => true
  | _ => false
theorem isi {K : PySem.W.Frag} {H : Hp} {x : V} {T U : String} {b : Bool} {R : Bool → Prop} (ty : TyX K H x (.type T)) (h : kitB T U = some b) (q : R b) : ∃ (t u : Value), ClsV (.ty U) u ∧ TyX K H x t ∧ ∃ b', PySem.W.kitOne K t u = some b' ∧ R b' :=
  ⟨_, _, .ty U, ty, b, kit_ty h, q⟩
/-- isinstance of any thing -/
theorem isiT {K : PySem.W.Frag} {H : Hp} {x : V} {T U : String} {R : Bool → Prop} (t : Thg K H x T) (hU : U ∈ ["bool", "int", "str", "list", "tuple", "dict"]) (q : R (kindIs T U)) : ∃ (t u : Value), ClsV (.ty U) u ∧ TyX K H x t ∧ ∃ b', PySem.W.kitOne K t u = some b' ∧ R b' :=
  isi t.1 (kd_all T t.2 U hU) q
theorem thg_int {K : PySem.W.Frag} {H : Hp} {i : Int} : Thg K H (.int i) "int" := ⟨.base (.int i), by decide⟩
theorem thg_bl {K : PySem.W.Frag} {H : Hp} {b : Bool} : Thg K H (.bl b) "bool" := ⟨.base (.bl b), by decide⟩
theorem thg_non {K : PySem.W.Frag} {H : Hp} : Thg K H .non "NoneType" := ⟨.base .non, by decide⟩
theorem thg_str {K : PySem.W.Frag} {H : Hp} {z : Str} : Thg K H (.str z) "str" := ⟨.base (.str z), by decide⟩
theorem thg_lst {K : PySem.W.Frag} {H : Hp} {a : Addr} {xs : List V} (h : H a = some (.lst xs)) : Thg K H (.ref a) "list" := ⟨.base (.lst h), by decide⟩
theorem thg_dK {K : PySem.W.Frag} {H : Hp} {a : Addr} {xs : List (Key × V)} (h : H a = some (.dK xs)) : Thg K H (.ref a) "dict" := ⟨.base (.dK h), by decide⟩
theorem thg_tup {K : PySem.W.Frag} {H : Hp} {a : Addr} {xs : List V} (h : SqT K H a xs) : Thg K H (.ref a) "tuple" := by
  refine ⟨?_, by decide⟩
  rcases h with (h | ⟨o, h⟩) | ⟨o, _, _, h, hc, _⟩
  · exact .base (.tup h)
  · exact .fTuple h
  · exact .kTuple h hc
theorem thg_seq {K : PySem.W.Frag} {H : Hp} {a : Addr} {xs : List V} (h : SqL K H a xs) : Thg K H (.ref a) "list" := by
  refine ⟨?_, by decide⟩
  rcases h with (h | ⟨o, h⟩) | ⟨o, _, _, h, hc, _⟩
  · exact .base (.lst h)
  · exact .base (.frz h)
  · exact .kList h hc
/-- whole numbers and no others are of the kind int alone -/
theorem isWh_of {K : PySem.W.Frag} {H : Hp} {x : V} {T : String} (t : Thg K H x T) : (kindIs T "int" && !kindIs T "bool") = isWh x := by
  obtain ⟨ty, hT⟩ := t
  generalize hc : Value.type T = c at ty
  cases ty with
  | base b =>
    cases b with
    | ins e cl ha hn htk hm => cases hc
    | _ => cases hc; rfl
  | byt b =>
    cases hc
    exact absurd hT (by decide)
  | set e =>
    cases hc
    exact absurd hT (by decide)
  | kList e c => cases hc; rfl
  | kTuple e c => cases hc; rfl
  | kDict e c => cases hc; rfl
  | fTuple e => cases hc; rfl
  | fDict e => cases hc; rfl
/-! ### constants of the module -/
theorem pe_gi {X : Cx} {x : Str} {v : Int} {pos : Pos} (hg : Gl X x) (hm : ∃ t, X.mg x = some (.int v t)) (hd : (x == ("__debug__" : Str)) = false := by decide) : PE X (.Name x pos) (tC (.int v)) := by
  obtain ⟨t, hm⟩ := hm
  exact pe_glob hg hm ⟨t, rfl⟩ hd
theorem pe_gs {X : Cx} {x v : Str} {pos : Pos} (hg : Gl X x) (hm : ∃ t, X.mg x = some (.str v t)) (hd : (x == ("__debug__" : Str)) = false := by decide) : PE X (.Name x pos) (tC (.str v)) := by
  obtain ⟨t, hm⟩ := hm
  exact pe_glob hg hm ⟨t, rfl⟩ hd
/-! ### tuples in a list -/
def Tups (K : PySem.W.Frag) (H : Hp) : List V → List (List V) → Prop := Paired fun x d => ∃ a, x = .ref a ∧ SqT K H a d
theorem Tups.same {K : PySem.W.Frag} {H H' : Hp} {xs : List V} {ds : List (List V)} (t : Tups K H xs ds) (s : Same H H') : Tups K H' xs ds := Paired.mapP t fun x d ⟨a, e, h⟩ => ⟨a, e, Same.seqT s h⟩
theorem Tups.get {K : PySem.W.Frag} {H : Hp} : ∀ {xs : List V} {ds : List (List V)} {i : Nat} {x : V}, Tups K H xs ds → xs[i]? = some x → ∃ a d, ds[i]? = some d ∧ x = .ref a ∧ SqT K H a d
  | _, _, _, _, .nil, e => by simp at e
  | _, _, 0, _, .cons ⟨a, e1, h⟩ _, e => by
    cases e
    exact ⟨a, _, rfl, e1, h⟩
  | _, _, i + 1, x, .cons _ t, e => Tups.get (i := i) t (by simpa using e)
theorem Tups.append {K : PySem.W.Frag} {H : Hp} : ∀ {xs ys : List V} {ds es : List (List V)}, Tups K H xs ds → Tups K H ys es → Tups K H (xs ++ ys) (ds ++ es)
  | _, _, _, _, .nil, s => s
  | _, _, _, _, .cons r t, s => .cons r (Tups.append t s)
theorem Tups.take {K : PySem.W.Frag} {H : Hp} : ∀ {xs : List V} {ds : List (List V)} (n : Nat), Tups K H xs ds → Tups K H (xs.take n) (ds.take n)
  | _, _, 0, _ => .nil
  | _, _, _ + 1, .nil => .nil
  | _, _, n + 1, .cons r t => .cons r (Tups.take n t)
theorem Tups.len {K : PySem.W.Frag} {H : Hp} {xs : List V} {ds : List (List V)} (t : Tups K H xs ds) : xs.length = ds.length := Paired.length t
theorem SqT.off {K : PySem.W.Frag} {H H' : Hp} {D a : Addr} {xs ys : List V} (f : Off D H H') (hD : H D = some (.lst ys)) (h : SqT K H a xs) : SqT K H' a xs := by
  rcases h with (h | ⟨o, h⟩) | h
  · exact .inl (.inl (f.at h hD (by intro z; cases z)))
  · exact .inl (.inr ⟨o, f.at h hD (by intro z; cases z)⟩)
  · exact .inr h
theorem Tups.off {K : PySem.W.Frag} {H H' : Hp} {D : Addr} {xs ys : List V} {ds : List (List V)} (t : Tups K H xs ds) (f : Off D H H') (hD : H D = some (.lst ys)) : Tups K H' xs ds := Paired.mapP t fun x d ⟨a, e, h⟩ => ⟨a, e, SqT.off f hD h⟩
theorem SqL.off {K : PySem.W.Frag} {H H' : Hp} {D a : Addr} {xs : List V} (f : Off D H H') (n : a ≠ D) (h : SqL K H a xs) : SqL K H' a xs := by
  rcases h with (h | ⟨o, h⟩) | h
  · exact .inl (.inl (f _ _ n h))
  · exact .inl (.inr ⟨o, f _ _ n h⟩)
  · exact .inr h
theorem sz100 {n : Nat} (h : n ≤ 100000) : n ≤ sizeLine := Nat.le_trans h (by decide)
theorem sz100l {n : Nat} (h : n < 100000) : n < sizeLine := Nat.lt_of_lt_of_le h (by decide)
theorem head_int (ns : List Int) (m : Int) : ∃ z, atI (ns.map V.int ++ [.int m]) 0 = some (.int z) := by
  cases ns with
  | nil => exact ⟨m, rfl⟩
  | cons z r => exact ⟨z, atI_nat (j := 0) rfl⟩
theorem last_int {l : List Int} {z : Int} (h : l[l.length - 1]? = some z) : atI (l.map V.int) (-1) = some (.int z) := by
  have ne : l ≠ [] := fun e => by
    rw [e] at h
    cases h
  have e1 := List.dropLast_concat_getLast ne
  have e2 : l.getLast ne = z := by
    rw [List.getLast_eq_getElem]
    rw [List.getElem?_eq_getElem (by cases l <;> simp at ne ⊢)] at h
    exact Option.some.inj h
  rw [← e1, List.map_append, e2]
  exact atI_last _ _
/-! ### the rules over a written part that is named: within a comprehension, too -/
section
variable {X : Cx} {K : PySem.W.Frag}
theorem ix_listK (h : X.K = K := by rfl) : IxR X (rIxL K) := by subst h; exact ix_list
theorem ix_tupK (h : X.K = K := by rfl) : IxR X (rIxT K) := by subst h; exact ix_tup
theorem sl_listK (h : X.K = K := by rfl) : SlR X (rSlL K) := by subst h; exact sl_list
theorem sl_tupK (h : X.K = K := by rfl) : SlR X (rSlT K) := by subst h; exact sl_tup
theorem op_in_seqK (h : X.K = K := by rfl) : OpR X (compareOp .In) (rIn K false) := by subst h; exact op_in_seq
theorem op_notIn_seqK (h : X.K = K := by rfl) : OpR X (compareOp .NotIn) (rIn K true) := by subst h; exact op_notIn_seq
theorem op_eqDK (hu : X.A.units + 64 < cLine) (h : X.K = K := by rfl) : OpR X (compareOp .Eq) (rEqD K) := by subst h; exact op_eqD hu
theorem op_neDK (hu : X.A.units + 64 < cLine) (h : X.K = K := by rfl) : OpR X (compareOp .NotEq) (rNeD K) := by subst h; exact op_neD hu
theorem op_catTK (h : X.K = K := by rfl) : OpR X (binaryOp .Add) (rCatT K) := by subst h; exact op_catT
theorem call_isiK' (h : X.K = K := by rfl) : CallR X (.builtin "isinstance") (rIsi K) := by subst h; exact call_isi
theorem call_isiTK (h : X.K = K := by rfl) : CallR X (.builtin "isinstance") (rIsiT K) := by subst h; exact call_isiT
theorem cr_allK (hc : X.calm = true) (h : X.K = K := by rfl) : CallR X (.builtin "all") (rAll K) := by subst h; exact cr_all hc
theorem cr_anyK (hc : X.calm = true) (h : X.K = K := by rfl) : CallR X (.builtin "any") (rAny K) := by subst h; exact cr_any hc
theorem cr_sumK (hc : X.calm = true) (h : X.K = K := by rfl) : CallR X (.builtin "sum") (rSum K) := by subst h; exact cr_sum hc
theorem pi_listK {tg l : Expr} {tl : TE} (hl : PE X l tl) (h : X.K = K := by rfl) : PI X tg l (iList K tl) := by subst h; exact pi_list hl
theorem pi_tupK {tg l : Expr} {tl : TE} (hl : PE X l tl) (h : X.K = K := by rfl) : PI X tg l (iTup K tl) := by subst h; exact pi_tup hl
theorem pi_reversedK {tg e : Expr} {ta : TA} {p pos : Pos} (hg : Gl X "reversed") (hm : X.mg "reversed" = none) (ha : PA X [e] ta) (hs : starEach [e] X.env = [(false, eval e X.env)] := by rfl) (h : X.K = K := by rfl) : PI X tg (.Call (.Name "reversed" p) [e] [] pos) (iRev K ta) := by subst h; exact pi_reversed hg hm ha hs
theorem pe_bm0K {o : Expr} {to : TE} {name : Str} {apos cpos : Pos} {T id : String} {r : V → List V → Hp → VK → Prop} (pa : PlainAttrs T) (slot : Slot T name id) (hty : typeOf (.builtin id) = pure (.type "method_descriptor")) (hm : MtR X id r) (ho : PE X o to)
    (hbase : attributeBase o name X.env (eval o X.env) = eval o X.env := by rfl) (hline : (apos.endLine == cpos.line) = true := by rfl) (h : X.K = K := by rfl) : PE X (.Call (.Attribute o name apos) [] [] cpos) (tBM0 K T r to) := by subst h; exact pe_bm0 pa slot hty hm ho hbase hline
theorem pe_bmK {o e : Expr} {es : List Expr} {to : TE} {t : TA} {name : Str} {apos cpos : Pos} {T id : String} {r : V → List V → Hp → VK → Prop} (pa : PlainAttrs T) (slot : Slot T name id) (hty : typeOf (.builtin id) = pure (.type "method_descriptor")) (hm : MtR X id r) (ho : PE X o to) (ha : PA X (e :: es) t)
    (hbase : attributeBase o name X.env (eval o X.env) = eval o X.env := by rfl)
    (hfew : ((backTo cpos (starEach (e :: es) X.env)).all (fun x => !x.1) && (backToKw cpos (keywordEach [] X.env)).all (fun x => x.1.isSome)
      && decide ((e :: es).length + ([] : List Keyword).length + (if ([] : List Keyword).isEmpty then 0 else 1) < 30)) = true := by rfl)
    (hline : (apos.endLine == cpos.line) = true := by rfl) (hs : starEach (e :: es) X.env = (false, eval e X.env) :: starEach es X.env := by rfl) (hplain : (backTo cpos (starEach es X.env)).any (·.1) = false := by rfl) (h : X.K = K := by rfl) :
    PE X (.Call (.Attribute o name apos) (e :: es) [] cpos) (tBM K T r to t) := by subst h; exact pe_bm pa slot hty hm ho ha hbase hfew hline hs hplain
theorem mt_indexK (h : X.K = K := by rfl) : MtR X "list.index" (rIndex K) := by subst h; exact mt_index
theorem pi_enumK {e : Expr} {ta : TA} {p pos tpos : Pos} {elts : List Expr} {kk : Nat} (hg : Gl X "enumerate") (hm : X.mg "enumerate" = none) (ha : PA X [e] ta) (hs : starEach [e] X.env = [(false, eval e X.env)] := by rfl) (h : X.K = K := by rfl) :
    PI X (.Tuple elts kk tpos) (.Call (.Name "enumerate" p) [e] [] pos) (iEnum K ta) := by subst h; exact pi_enum hg hm ha hs
theorem pi_zipK {e e2 : Expr} {ta : TA} {p pos tpos : Pos} {elts : List Expr} {kk : Nat} (hg : Gl X "zip") (hm : X.mg "zip" = none) (ha : PA X [e, e2] ta)
    (hs : starEach [e, e2] X.env = (false, eval e X.env) :: starEach [e2] X.env := by rfl) (hpl : (backTo pos (starEach [e2] X.env)).any (·.1) = false := by rfl) (h : X.K = K := by rfl) :
    PI X (.Tuple elts kk tpos) (.Call (.Name "zip" p) [e, e2] [] pos) (iZip K ta) := by subst h; exact pi_zip hg hm ha hs hpl
theorem pe_fldK {e : Expr} {f : Str} {pos : Pos} {ta : TE} (he : PE X e ta) (hb : attributeBase e f X.env (eval e X.env) = eval e X.env) (h : X.K = K := by rfl) : PE X (.Attribute e f pos) (tFld K ta f) := by subst h; exact pe_fld he hb
end

/-! ### ranges of ints of any size, walked -/
theorem turn_long {P : Program} {w : World} {K : PySem.W.Frag} {tg : Expr} (it : Addr) (lo : Int) (n : Nat) : Turn P w K tg (Itr lo n) [it] it (fun i h => IsLongIter h it (lo + (i : Nat) * 1) ((n : Int) - (i : Nat)) 1) where
  mem := by simp
  obj := fun i h st b hb => by
    have e : b = it := by simpa using hb
    subst e
    exact ⟨_, st, fun v z => by
      have z' : Data.fields _ = Data.cell v := z
      cases z'⟩
  keep := fun i h h' st k => k it (by simp) _ st
  item := by
    intro X hP hw hK hc i pins s σ H E I hf st hg
    subst hP hw hK
    obtain ⟨f0, f1, f2, f3, f4, f5⟩ := hf it (by simp)
    have W := Walks.longrange (prog := X.prog) (w := X.w) (I.ok.hd hc) it lo 1 n
    refine W.item i s _ _ hg st fun v h' tk hv st' kk => ?_
    obtain ⟨t, rfl⟩ := hv
    have I1 : Inv X pins σ H { s with heap := h', toks := tk } := I.turned (fun b o hb e => kk b o (by simpa using hb) e) f0 f1 f3 f4 f5
    refine ⟨_, rfl, go_of (s := { s with heap := h', toks := tk }) (n := "longrange_iterator") st' rfl rfl (by decide) ⟨.int (lo + i), H, I1, ⟨t, ?_⟩, ⟨rfl, rfl⟩, st', fun b hb => (hf b hb).1⟩⟩
    rw [Int.mul_one]
  done := by
    intro X hP hw hK hc i pins s σ H E I hf st hg
    subst hP hw hK
    obtain ⟨f0, f1, f2, f3, f4, f5⟩ := hf it (by simp)
    exact wpAny_pyNext_long_end (I.ok.hd hc) st (by have : n ≤ i := hg; omega) fun h' eb => ⟨rfl, I.turned (t' := s.toks) (fun b o hb e => eb b o hb e) f0 f1 f3 f4 f5⟩
  self := fun _ _ _ _ _ st h => wpAny_pyIter_longiter st h
theorem range_itL {X : Cx} {tg : Expr} {pins : List (Addr × Obj)} {σ : L2.St} {H : Hp} {s : Shared} {R : It → Hp → Prop} {E : Value → Shared → Prop} {lo hi : Int} {t u v : Tok} {tk : Nat} (I : Inv X pins σ H s)
    (q : R (Itr lo (hi - lo).toNat) H) : wpAny (model X.prog X.w) X.A (pyIter (.ref s.heap.objs.size)) (PIE X pins σ tg R) E { s with heap := s.heap.push { cls := .type "range", data := .fields #[.int lo t, .int hi u, .int 1 v] }, toks := tk } := by
  have I1 : Inv X pins σ H { s with heap := s.heap.push { cls := .type "range", data := .fields #[.int lo t, .int hi u, .int 1 v] }, toks := tk } := I.kept fun b o e => Heap.get?_push_of_some _ e
  have e1 : lo + ((0 : Nat) : Int) * 1 = lo := by simp
  have e2 : (((hi - lo).toNat : Nat) : Int) - ((0 : Nat) : Int) = Builtin.Range.rangeSize lo hi 1 := by rw [rangeSize_one]; split <;> omega
  cases hs : Builtin.Range.small lo hi 1 with
  | true =>
    refine wpAny_pyIter_range (IsRange.new ..) hs ?_
    refine ⟨(s.heap.push { cls := .type "range", data := .fields #[.int lo t, .int hi u, .int 1 v] }).objs.size, [(s.heap.push { cls := .type "range", data := .fields #[.int lo t, .int hi u, .int 1 v] }).objs.size], _, _, H, rfl,
      I1.kept (t' := tk) fun b o e => Heap.get?_push_of_some _ e, turn_range _ lo (hi - lo).toNat, ?_, fun b hb => ?_, q⟩
    · show IsRangeIter _ _ (lo + ((0 : Nat) : Int) * 1) ((((hi - lo).toNat : Nat) : Int) - ((0 : Nat) : Int)) 1
      rw [e1, e2]
      exact Heap.get?_push_size _ rfl
    · have e : b = (s.heap.push { cls := .type "range", data := .fields #[.int lo t, .int hi u, .int 1 v] }).objs.size := by simpa using hb
      subst e
      exact I1.fpOk (Nat.le_refl _) (I1.hok.fresh (Nat.le_refl _))
  | false =>
    refine wpAny_pyIter_longrange (IsRange.new ..) hs ?_
    refine ⟨(s.heap.push { cls := .type "range", data := .fields #[.int lo t, .int hi u, .int 1 v] }).objs.size, [(s.heap.push { cls := .type "range", data := .fields #[.int lo t, .int hi u, .int 1 v] }).objs.size], _, _, H, rfl,
      I1.kept (t' := tk) fun b o e => Heap.get?_push_of_some _ e, turn_long _ lo (hi - lo).toNat, ?_, fun b hb => ?_, q⟩
    · show IsLongIter _ _ (lo + ((0 : Nat) : Int) * 1) ((((hi - lo).toNat : Nat) : Int) - ((0 : Nat) : Int)) 1
      rw [e1, e2]
      exact Heap.get?_push_size _ rfl
    · have e : b = (s.heap.push { cls := .type "range", data := .fields #[.int lo t, .int hi u, .int 1 v] }).objs.size := by simpa using hb
      subst e
      exact I1.fpOk (Nat.le_refl _) (I1.hok.fresh (Nat.le_refl _))
def iRngL1 (ta : TA) : TI := fun σ H R => ta σ H fun vs H1 => ∃ j : Int, vs = [.int j] ∧ R (Itr 0 j.toNat) H1
def iRngL2 (ta : TA) : TI := fun σ H R => ta σ H fun vs H1 => ∃ i j : Int, vs = [.int i, .int j] ∧ R (Itr i (j - i).toNat) H1
theorem pi_rangeL1 {X : Cx} {tg : Expr} {a : Expr} {ta : TA} {p pos : Pos} (hg : Gl X "range") (hm : X.mg "range" = none) (ha : PA X [a] ta) (hs : starEach [a] X.env = [(false, eval a X.env)] := by rfl) : PI X tg (.Call (.Name "range" p) [a] [] pos) (iRngL1 ta) := by
  refine ⟨fun pins s σ H R I h => ?_⟩
  refine Call_ (ld_blt I hg hm boot_range (PyProof.Rows.callWith_type1 (thn (ha.run pos pins s σ H _ I h) fun us s1 ⟨vs, H1, I1, r1, q1⟩ => ?_) hs rfl))
  obtain ⟨j, e, q⟩ := q1
  subst e
  cases r1 with
  | cons r rr =>
    cases rr
    obtain ⟨t, rfl⟩ := r
    exact call_range_1 (range_itL I1 (by simpa using q))
theorem pi_rangeL2 {X : Cx} {tg : Expr} {a b : Expr} {ta : TA} {p pos : Pos} (hg : Gl X "range") (hm : X.mg "range" = none) (ha : PA X [a, b] ta) (hs : starEach [a, b] X.env = [(false, eval a X.env), (false, eval b X.env)] := by rfl) (hs2 : starEach [b] X.env = [(false, eval b X.env)] := by rfl) :
    PI X tg (.Call (.Name "range" p) [a, b] [] pos) (iRngL2 ta) := by
  refine ⟨fun pins s σ H R I h => ?_⟩
  refine Call_ (ld_blt I hg hm boot_range (PyProof.Rows.callWith_type1 (thn (ha.run pos pins s σ H _ I h) fun us s1 ⟨vs, H1, I1, r1, q1⟩ => ?_) (by rw [hs, hs2]) (by rw [hs2]; rfl)))
  obtain ⟨i, j, e, q⟩ := q1
  subst e
  cases r1 with
  | cons r rr =>
    cases rr with
    | cons r' rr =>
      cases rr
      obtain ⟨t, rfl⟩ := r
      obtain ⟨t', rfl⟩ := r'
      exact call_range_2 (range_itL I1 q)
/-! ### objects of own classes -/
structure Mn (P : Program) (w : World) (K : PySem.W.Frag) (mg : Str → Option Value) (base : Heap) (CX : CXT) (k : Nat) (C : Addr) (x : Str) (ps : List Str) (sp : Sp) : Prop where
  ex : ∃ f fd, Mk K C f ∧ FnOk P w K mg base CX k f fd ps sp ∧ mg x = some (.ref C) ∧ Binds K fd ps []
structure Nn (P : Program) (w : World) (K : PySem.W.Frag) (mg : Str → Option Value) (base : Heap) (CX : CXT) (k : Nat) (C : Addr) (m : Str) (ps : List Str) (sp : Sp) : Prop where
  cl : Cls K C
  ex : ∃ f fd, Meth K C m f ∧ FnOk P w K mg base CX k f fd ps sp ∧ Binds K fd ps []
section
variable {X : Cx} {CX : CXT} {k : Nat} {C : Addr} {ps : List Str} {sp : Sp} {E : XK} {x m : Str} {p pos apos : Pos} {e o : Expr} {es : List Expr} {t : TA} {ta : TE}
theorem pe_mk (M : Mn X.prog X.w X.K X.mg X.base CX k C x ps sp) (hr : Room (k + 1) X.A) (hg : Gl X x) (hx : Passes CX X E) (ha : PA X (e :: es) t)
    (hdb : (x == ("__debug__" : Str)) = false := by decide) (he : starEach (e :: es) X.env = (false, eval e X.env) :: starEach es X.env := by rfl) (hpl : (backTo pos (starEach es X.env)).any (·.1) = false := by rfl) :
    PE X (.Call (.Name x p) (e :: es) [] pos) (tMake C sp [] E t) := by
  obtain ⟨f, fd, mk, F, hm, b⟩ := M.ex
  exact pe_make mk F hr hg hm b .nil hx ha hdb he hpl
theorem pe_mk0 (M : Mn X.prog X.w X.K X.mg X.base CX k C x ps sp) (hr : Room (k + 1) X.A) (hg : Gl X x) (hx : Passes CX X E)
    (hdb : (x == ("__debug__" : Str)) = false := by decide) : PE X (.Call (.Name x p) [] [] pos) (tMake C sp [] E tNil) := by
  obtain ⟨f, fd, mk, F, hm, b⟩ := M.ex
  exact pe_make0 mk F hr hg hm b .nil hx hdb
theorem pe_md {pl : Sem Bool} (ho : PE X o ta) (N : Nn X.prog X.w X.K X.mg X.base CX k C m ps sp) (hr : Room k X.A) (hx : Passes CX X E) (ha : PA X (e :: es) t)
    (hst : starEach (e :: es) X.env = (false, eval e X.env) :: starEach es X.env := by rfl) (hpl : (backTo pos (starEach es X.env)).any (·.1) = false := by rfl)
    (ht : eval (.Call (.Attribute o m apos) (e :: es) [] pos) X.env = (do
      let ov ← eval o X.env
      standAt apos.atName
      let (f, first) ← holding [ov] (getMethod ov m pl)
      callWith pos f first (backTo pos (starEach (e :: es) X.env)) (backToKw pos (keywordEach [] X.env))) := by rfl) : PE X (.Call (.Attribute o m apos) (e :: es) [] pos) (tMeth C m sp [] E ta t) := by
  obtain ⟨f, fd, hm, F, b⟩ := N.ex
  exact pe_meth ho N.cl hm F hr b .nil hx ha hst hpl ht
theorem pe_md0 {pl : Sem Bool} (ho : PE X o ta) (N : Nn X.prog X.w X.K X.mg X.base CX k C m ps sp) (hr : Room k X.A) (hx : Passes CX X E)
    (ht : eval (.Call (.Attribute o m apos) [] [] pos) X.env = (do
      let ov ← eval o X.env
      standAt apos.atName
      let (f, first) ← holding [ov] (getMethod ov m pl)
      callWith pos f first (backTo pos (starEach [] X.env)) (backToKw pos (keywordEach [] X.env))) := by rfl) : PE X (.Call (.Attribute o m apos) [] [] pos) (tMeth C m sp [] E ta tNil) := by
  obtain ⟨f, fd, hm, F, b⟩ := N.ex
  exact pe_meth0 ho N.cl hm F hr b .nil hx ht
end
def Made (H : Hp) (C : Addr) (R : Addr → Hp → Prop) : Prop := ∀ x dx, H x = none → H dx = none → dx ≠ x → R x (upd (upd H dx (.own x)) x (.ins C dx []))
theorem Made.intro {H : Hp} {C : Addr} {R : Addr → Hp → Prop} (h : ∀ x dx H2, H x = none → Same H H2 → H2 x = some (.ins C dx []) → R x H2) : Made H C R := fun x dx hx hd ne =>
  h x dx _ hx (fun b o e => by rw [upd_ne (ne_of_none e hx), upd_ne (ne_of_none e hd)]; exact e) upd_same
theorem tMake_n {C : Addr} {sp : Sp} {dvs : List V} {E : XK} {t : TA} : tMake C sp dvs E t = fun σ H Q => t σ H fun vs H1 => Made H1 C fun x H2 => sp (.ref x :: (vs ++ dvs)) H2 (fun v H3 => v = .non ∧ Q (.ref x) H3) E := rfl
theorem sFld_n {K : PySem.W.Frag} {ta tv : TE} {f : Str} : sFld K ta tv f = fun D σ H => tv σ H fun y H1 => ta σ H1 fun x H2 => ∃ a C dx fs, x = .ref a ∧ H2 a = some (.ins C dx fs) ∧ Cls K C ∧ NoAttr K C f ∧ fs.length < 1000 ∧
  Upd H2 a (.ins C dx (putF f y fs)) fun H3 => D.nx σ H3 := rfl
theorem ps_fldK {X : Cx} {K : PySem.W.Frag} {o value : Expr} {f : Str} {pos pos' : Pos} {ta tv : TE} (ha : PE X o ta) (hv : PE X value tv) (hs : swapsWith value (some (.Attribute o f pos')) pos.line X.env = pure false) (h : X.K = K := by rfl) : PS X (.Assign [.Attribute o f pos'] value pos) (sFld K ta tv f) := by subst h; exact ps_fld ha hv hs
theorem lk0 {f : Str} {v : V} {r : List (Str × V)} : List.lookup f ((f, v) :: r) = some v := by simp [List.lookup]
theorem lk1 {f g : Str} {v : V} {r : List (Str × V)} {o : Option V} (h : (g == f) = false) (k : List.lookup g r = o) : List.lookup g ((f, v) :: r) = o := by
  rw [List.lookup_cons, h]
  exact k
theorem putF0 {f : Str} {v x : V} {r : List (Str × V)} : putF f v ((f, x) :: r) = (f, v) :: r := by
  unfold putF
  rw [if_pos rfl]
theorem putF1 {f g : Str} {v x : V} {r : List (Str × V)} (h : ¬ g = f) : putF f v ((g, x) :: r) = (g, x) :: putF f v r := by
  show (if g = f then _ else _) = _
  rw [if_neg h]
def rInsert : V → List V → Hp → VK → Prop := fun x vs H Q => ∃ (l : Addr) (xs : List V) (i : Int) (y : V), x = .ref l ∧ vs = [.int i, y] ∧ H l = some (.lst xs) ∧ xs.length < sizeLine ∧ 0 ≤ i ∧ i < 2 ^ 63 ∧ Upd H l (.lst (xs.take i.toNat ++ [y] ++ xs.drop i.toNat)) fun H2 => Q .non H2
theorem mt_insertR {X : Cx} : MtR X "list.insert" rInsert := mt_insert
theorem rRemI_n : rRemI = fun x xs H Q => ∃ (l : Addr) (ns : List Int) (k : Int) (j : Nat), x = V.ref l ∧ xs = [V.int k] ∧ H l = some (.lst (ns.map V.int)) ∧ ns[j]? = some k ∧ (∀ m : Nat, m < j → ns[m]? ≠ some k) ∧ Upd H l (.lst ((ns.eraseIdx j).map V.int)) fun H2 => Q .non H2 := rfl
theorem inV_int (n : Int) : ∀ ns : List Int, inV (.int n) (ns.map V.int) = decide (n ∈ ns)
  | [] => rfl
  | a :: r => by
    have e : inV (.int n) ((a :: r).map V.int) = (eqV (.int a) (.int n) || inV (.int n) (r.map V.int)) := rfl
    rw [e, inV_int n r]
    have e2 : eqV (.int a) (.int n) = decide (a = n) := by
      unfold eqV
      rfl
    rw [e2]
    by_cases h : a = n
    · subst h
      simp
    · simp [h, Ne.symm h]
theorem flat_ints : ∀ ns : List Int, (ns.map V.int).all flatV = true
  | [] => rfl
  | _ :: r => flat_ints r

/-! ### loops by an invariant -/
theorem Loop.list {K : PySem.W.Frag} {a : Addr} {xs : List V} {g : TG} {tb : TS} {D : Ends} {σ : L2.St} {H : Hp} (Pv : Nat → L2.St → Hp → Prop) (h0 : Pv 0 σ H) (hl : ∀ i σ H, i ≤ xs.length → Pv i σ H → SqL K H a xs)
    (hs : ∀ i x σ H, xs[i]? = some x → Pv i σ H → g x σ H fun σ2 H2 => tb { D with nx := Pv (i + 1), ct := Pv (i + 1), bk := D.nx } σ2 H2) (hd : ∀ σ H, Pv xs.length σ H → D.nx σ H) : Loop (Itl K a) g tb D σ H := for_list Pv h0 hl hs hd
theorem Loop.tup {K : PySem.W.Frag} {a : Addr} {xs : List V} {g : TG} {tb : TS} {D : Ends} {σ : L2.St} {H : Hp} (Pv : Nat → L2.St → Hp → Prop) (h0 : Pv 0 σ H) (hl : ∀ i σ H, i ≤ xs.length → Pv i σ H → SqT K H a xs)
    (hs : ∀ i x σ H, xs[i]? = some x → Pv i σ H → g x σ H fun σ2 H2 => tb { D with nx := Pv (i + 1), ct := Pv (i + 1), bk := D.nx } σ2 H2) (hd : ∀ σ H, Pv xs.length σ H → D.nx σ H) : Loop (Itt K a) g tb D σ H := for_tup Pv h0 hl hs hd
theorem Loop.range {lo : Int} {n : Nat} {g : TG} {tb : TS} {D : Ends} {σ : L2.St} {H : Hp} (Pv : Nat → L2.St → Hp → Prop) (h0 : Pv 0 σ H)
    (hs : ∀ i σ H, i < n → Pv i σ H → g (.int (lo + i)) σ H fun σ2 H2 => tb { D with nx := Pv (i + 1), ct := Pv (i + 1), bk := D.nx } σ2 H2) (hd : ∀ σ H, Pv n σ H → D.nx σ H) : Loop (Itr lo n) g tb D σ H := for_range Pv h0 hs hd
theorem Loop.rev {K : PySem.W.Frag} {a : Addr} {xs : List V} {n : Nat} {g : TG} {tb : TS} {D : Ends} {σ : L2.St} {H : Hp} (hn : n = xs.length) (Pv : Nat → L2.St → Hp → Prop) (h0 : Pv 0 σ H) (hl : ∀ i σ H, i ≤ xs.length → Pv i σ H → SqL K H a xs)
    (hs : ∀ i x σ H, xs[xs.length - 1 - i]? = some x → i < xs.length → Pv i σ H → g x σ H fun σ2 H2 => tb { D with nx := Pv (i + 1), ct := Pv (i + 1), bk := D.nx } σ2 H2) (hd : ∀ σ H, Pv xs.length σ H → D.nx σ H) : Loop (Itv K a n) g tb D σ H := by
  subst hn
  refine ⟨fun i m σ H => m = xs.length - i ∧ i ≤ xs.length ∧ Pv i σ H, ⟨xs.length, by simp, Nat.zero_le _, h0⟩, ?_⟩
  rintro i m σ H ⟨rfl, hi, p⟩
  have q := hl i σ H hi p
  by_cases hlt : i < xs.length
  · have hx : xs.length - 1 - i < xs.length := by omega
    refine .inr ⟨⟨hlt, xs, xs[xs.length - 1 - i], q, by simp [hx]⟩, Pv (i + 1), fun σ' H' p' => ⟨xs.length - (i + 1), by omega, rfl, hlt, p'⟩, fun x H' y => ?_⟩
    obtain ⟨e, y⟩ := y
    subst e
    exact hs i x σ _ (y xs q) hlt p
  · have e : i = xs.length := by omega
    subst e
    exact .inl ⟨Nat.le_refl _, hd σ H p⟩
theorem Loop.enum {K : PySem.W.Frag} {a : Addr} {xs : List V} {g : TG} {tb : TS} {D : Ends} {σ : L2.St} {H : Hp} (Pv : Nat → L2.St → Hp → Prop) (h0 : Pv 0 σ H) (hl : ∀ i σ H, i ≤ xs.length → Pv i σ H → SqL K H a xs)
    (hs : ∀ i x σ H T H1, xs[i]? = some x → Pv i σ H → H T = none → Same H H1 → H1 T = some (.tup [.int (i : Nat), x]) → g (.ref T) σ H1 fun σ2 H2 => tb { D with nx := Pv (i + 1), ct := Pv (i + 1), bk := D.nx } σ2 H2) (hd : ∀ σ H, Pv xs.length σ H → D.nx σ H) : Loop (Ite K a) g tb D σ H := by
  refine ⟨fun i m σ H => m = xs.length - i ∧ i ≤ xs.length ∧ Pv i σ H, ⟨xs.length, by simp, Nat.zero_le _, h0⟩, ?_⟩
  rintro i m σ H ⟨rfl, hi, p⟩
  have q := hl i σ H hi p
  by_cases hlt : i < xs.length
  · refine .inr ⟨⟨xs, xs[i], q, by simp [hlt]⟩, Pv (i + 1), fun σ' H' p' => ⟨xs.length - (i + 1), by omega, rfl, hlt, p'⟩, fun v H' y => ?_⟩
    obtain ⟨T, x, rfl, nT, rfl, f⟩ := y
    exact hs i x σ H T _ (f xs q) p nT (same_new nT) upd_same
  · have e : i = xs.length := by omega
    subst e
    exact .inl ⟨⟨xs, q, Nat.le_refl _⟩, hd σ H p⟩
theorem Loop.zip {K : PySem.W.Frag} {a b : Addr} {xs ys : List V} {g : TG} {tb : TS} {D : Ends} {σ : L2.St} {H : Hp} (hn : xs.length = ys.length) (Pv : Nat → L2.St → Hp → Prop) (h0 : Pv 0 σ H) (hl : ∀ i σ H, i ≤ xs.length → Pv i σ H → SqL K H a xs ∧ SqL K H b ys)
    (hs : ∀ i x y σ H T H1, xs[i]? = some x → ys[i]? = some y → Pv i σ H → H T = none → Same H H1 → H1 T = some (.tup [x, y]) → g (.ref T) σ H1 fun σ2 H2 => tb { D with nx := Pv (i + 1), ct := Pv (i + 1), bk := D.nx } σ2 H2) (hd : ∀ σ H, Pv xs.length σ H → D.nx σ H) : Loop (Itz K a b) g tb D σ H := by
  refine ⟨fun i m σ H => m = xs.length - i ∧ i ≤ xs.length ∧ Pv i σ H, ⟨xs.length, by simp, Nat.zero_le _, h0⟩, ?_⟩
  rintro i m σ H ⟨rfl, hi, p⟩
  have q := hl i σ H hi p
  by_cases hlt : i < xs.length
  · refine .inr ⟨⟨xs, ys, xs[i], ys[i]'(by omega), q.1, q.2, by simp [hlt], by simp [show i < ys.length by omega]⟩, Pv (i + 1), fun σ' H' p' => ⟨xs.length - (i + 1), by omega, rfl, hlt, p'⟩, fun v H' y => ?_⟩
    obtain ⟨T, x, y, rfl, nT, rfl, f1, f2⟩ := y
    exact hs i x y σ H T _ (f1 xs q.1) (f2 ys q.2) p nT (same_new nT) upd_same
  · have e : i = xs.length := by omega
    subst e
    exact .inl ⟨⟨xs, ys, q.1, q.2, .inl (Nat.le_refl _)⟩, hd σ H p⟩
theorem Loop.str {z : Str} {g : TG} {tb : TS} {D : Ends} {σ : L2.St} {H : Hp} (Pv : Nat → L2.St → Hp → Prop) (h0 : Pv 0 σ H)
    (hs : ∀ i c σ H, z.cps[i]? = some c → Pv i σ H → g (.str ⟨#[c]⟩) σ H fun σ2 H2 => tb { D with nx := Pv (i + 1), ct := Pv (i + 1), bk := D.nx } σ2 H2) (hd : ∀ σ H, Pv z.cps.size σ H → D.nx σ H) : Loop (Its z) g tb D σ H := by
  refine ⟨fun i m σ H => m = z.cps.size - i ∧ i ≤ z.cps.size ∧ Pv i σ H, ⟨z.cps.size, by simp, Nat.zero_le _, h0⟩, ?_⟩
  rintro i m σ H ⟨rfl, hi, p⟩
  by_cases hlt : i < z.cps.size
  · refine .inr ⟨hlt, Pv (i + 1), fun σ' H' p' => ⟨z.cps.size - (i + 1), by omega, rfl, hlt, p'⟩, fun x H' y => ?_⟩
    obtain ⟨e, c, hc, ex⟩ := y
    subst e ex
    exact hs i c σ _ hc p
  · have e : i = z.cps.size := by omega
    subst e
    exact .inl ⟨Nat.le_refl _, hd σ H p⟩

theorem int_at {ns : List Int} {i : Nat} {x : V} (h : (ns.map V.int)[i]? = some x) : ∃ z, ns[i]? = some z ∧ x = .int z := by
  rw [List.getElem?_map] at h
  cases e : ns[i]? with
  | none =>
    rw [e] at h
    cases h
  | some z =>
    rw [e] at h
    exact ⟨z, rfl, (Option.some.inj h).symm⟩
theorem at_int {ns : List Int} {i : Nat} {z : Int} (h : ns[i]? = some z) : (ns.map V.int)[i]? = some (.int z) := by
  rw [List.getElem?_map, h]
  rfl
theorem take_snoc {α : Type} {l : List α} {i : Nat} {x : α} (h : l[i]? = some x) : l.take (i + 1) = l.take i ++ [x] := by
  rw [List.take_add_one, h]
  rfl
theorem drop_at {α : Type} {l : List α} {i : Nat} {x : α} (h : l[i]? = some x) : l.drop i = x :: l.drop (i + 1) := by
  obtain ⟨hi, e⟩ := List.getElem?_eq_some_iff.mp h
  rw [List.drop_eq_getElem_cons hi, e]
theorem iteN {c A B : Prop} [Decidable c] (hc : ¬ c) (h : B) : if c then A else B := by
  rw [if_neg hc]
  exact h
theorem iteP {c A B : Prop} [Decidable c] (hc : c) (h : A) : if c then A else B := by
  rw [if_pos hc]
  exact h
/-! ### comprehensions -/
/-- what is made so far stands at D; the source stands; an element may change what it likes but D -/
theorem Cmp.list {K : PySem.W.Frag} {a : Addr} {xs : List V} {g : TG} {tt : TT} {te : TE} {vs : List Nat} {σ : L2.St} {H1 : Hp} {Q : VK} (Pv : Addr → Nat → List V → Hp → Prop)
    (h0 : ∀ D H2, H1 D = none → Same H1 H2 → H2 D = some (.lst []) → Pv D 0 [] H2) (hl : ∀ D i acc H, i ≤ xs.length → Pv D i acc H → SqL K H a xs)
    (hs : ∀ D i x acc H (Nx : Hp → Prop), xs[i]? = some x → acc.length ≤ i → Pv D i acc H → (∀ acc' H', acc'.length ≤ i + 1 → Pv D (i + 1) acc' H' → Nx H') → g x (wipe σ vs) H fun σ2 H2 => wipe σ2 vs = wipe σ vs ∧ tt σ2 H2 fun b H3 =>
      if b = true then te σ2 H3 fun y H4 => ∃ acc, H4 D = some (.lst acc) ∧ acc.length < sizeLine ∧ Nx (upd H4 D (.lst (acc ++ [y]))) else Nx H3) (hd : ∀ D acc H, acc.length ≤ xs.length → Pv D xs.length acc H → Q (.ref D) H) : Cmp (Itl K a) g tt te vs σ H1 Q := fun D nD =>
  lc_list (K := K) (a := a) (xs := xs) (fun i H => ∃ acc, acc.length ≤ i ∧ Pv D i acc H) ⟨[], Nat.zero_le _, h0 D _ nD (same_new nD) upd_same⟩ (fun i H hi ⟨acc, _, p⟩ => hl D i acc H hi p)
    (fun i x H hx ⟨acc, ha, p⟩ => hs D i x acc H _ hx ha p fun acc' H' h1 h2 => ⟨acc', h1, h2⟩) (fun H ⟨acc, ha, p⟩ => hd D acc H ha p)
theorem Cmp.tup {K : PySem.W.Frag} {a : Addr} {xs : List V} {g : TG} {tt : TT} {te : TE} {vs : List Nat} {σ : L2.St} {H1 : Hp} {Q : VK} (Pv : Addr → Nat → List V → Hp → Prop)
    (h0 : ∀ D H2, H1 D = none → Same H1 H2 → H2 D = some (.lst []) → Pv D 0 [] H2) (hl : ∀ D i acc H, i ≤ xs.length → Pv D i acc H → SqT K H a xs)
    (hs : ∀ D i x acc H (Nx : Hp → Prop), xs[i]? = some x → acc.length ≤ i → Pv D i acc H → (∀ acc' H', acc'.length ≤ i + 1 → Pv D (i + 1) acc' H' → Nx H') → g x (wipe σ vs) H fun σ2 H2 => wipe σ2 vs = wipe σ vs ∧ tt σ2 H2 fun b H3 =>
      if b = true then te σ2 H3 fun y H4 => ∃ acc, H4 D = some (.lst acc) ∧ acc.length < sizeLine ∧ Nx (upd H4 D (.lst (acc ++ [y]))) else Nx H3) (hd : ∀ D acc H, acc.length ≤ xs.length → Pv D xs.length acc H → Q (.ref D) H) : Cmp (Itt K a) g tt te vs σ H1 Q := fun D nD =>
  lc_tup (K := K) (a := a) (xs := xs) (fun i H => ∃ acc, acc.length ≤ i ∧ Pv D i acc H) ⟨[], Nat.zero_le _, h0 D _ nD (same_new nD) upd_same⟩ (fun i H hi ⟨acc, _, p⟩ => hl D i acc H hi p)
    (fun i x H hx ⟨acc, ha, p⟩ => hs D i x acc H _ hx ha p fun acc' H' h1 h2 => ⟨acc', h1, h2⟩) (fun H ⟨acc, ha, p⟩ => hd D acc H ha p)
theorem Cmp.range {lo : Int} {n : Nat} {g : TG} {tt : TT} {te : TE} {vs : List Nat} {σ : L2.St} {H1 : Hp} {Q : VK} (Pv : Addr → Nat → List V → Hp → Prop)
    (h0 : ∀ D H2, H1 D = none → Same H1 H2 → H2 D = some (.lst []) → Pv D 0 [] H2)
    (hs : ∀ D i acc H (Nx : Hp → Prop), i < n → acc.length ≤ i → Pv D i acc H → (∀ acc' H', acc'.length ≤ i + 1 → Pv D (i + 1) acc' H' → Nx H') → g (.int (lo + i)) (wipe σ vs) H fun σ2 H2 => wipe σ2 vs = wipe σ vs ∧ tt σ2 H2 fun b H3 =>
      if b = true then te σ2 H3 fun y H4 => ∃ acc, H4 D = some (.lst acc) ∧ acc.length < sizeLine ∧ Nx (upd H4 D (.lst (acc ++ [y]))) else Nx H3) (hd : ∀ D acc H, acc.length ≤ n → Pv D n acc H → Q (.ref D) H) : Cmp (Itr lo n) g tt te vs σ H1 Q := fun D nD =>
  lc_range (lo := lo) (n := n) (fun i H => ∃ acc, acc.length ≤ i ∧ Pv D i acc H) ⟨[], Nat.zero_le _, h0 D _ nD (same_new nD) upd_same⟩
    (fun i H hx ⟨acc, ha, p⟩ => hs D i acc H _ hx ha p fun acc' H' h1 h2 => ⟨acc', h1, h2⟩) (fun H ⟨acc, ha, p⟩ => hd D acc H ha p)
theorem push {D : Addr} {i : Nat} {acc : List V} {y : V} {H4 : Hp} {Nx : Hp → Prop} {PV : List V → Hp → Prop} (hN : ∀ acc' H', acc'.length ≤ i + 1 → PV acc' H' → Nx H') (ha : acc.length ≤ i) (h : H4 D = some (.lst acc)) (hi : i < 1000000)
    (hp : ∀ H5, Off D H4 H5 → H5 D = some (.lst (acc ++ [y])) → PV (acc ++ [y]) H5) : ∃ acc, H4 D = some (.lst acc) ∧ acc.length < sizeLine ∧ Nx (upd H4 D (.lst (acc ++ [y]))) :=
  ⟨acc, h, Nat.lt_of_lt_of_le (Nat.lt_of_le_of_lt ha hi) (by decide), hN _ _ (by rw [List.length_append]; exact Nat.succ_le_succ ha) (hp _ Off.upd upd_same)⟩
/-- elements that change nothing, over a list; with a test -/
theorem Cmp.pureF {K : PySem.W.Frag} {a : Addr} {xs : List V} {j : Nat} {tt : TT} {te : TE} {vs : List Nat} {σ : L2.St} {H1 : Hp} {Q : VK} (p : V → Bool) (f : V → V) (hS : SqL K H1 a xs) (hz : xs.length ≤ 100000) (hw : ∀ x, wipe ((wipe σ vs).set j (some x)) vs = wipe σ vs)
    (ht : ∀ x H2 (R : Bool → Hp → Prop), x ∈ xs → Same H1 H2 → (∀ H3, Same H2 H3 → R (p x) H3) → tt ((wipe σ vs).set j (some x)) H2 R)
    (he : ∀ x H2 (R : VK), x ∈ xs → p x = true → Same H1 H2 → (∀ H3, Same H2 H3 → R (f x) H3) → te ((wipe σ vs).set j (some x)) H2 R)
    (hd : ∀ l H2, H1 l = none → Same H1 H2 → H2 l = some (.lst ((xs.filter p).map f)) → Q (.ref l) H2) : Cmp (Itl K a) (gName j) tt te vs σ H1 Q := by
  refine Cmp.list (xs := xs) (fun D i acc H => H1 D = none ∧ Same H1 H ∧ H D = some (.lst acc) ∧ acc = ((xs.take i).filter p).map f) (fun D H2 nD s2 h2 => ⟨nD, s2, h2, by simp⟩) (fun D i acc H _ ⟨_, s2, _⟩ => s2.seq hS) ?_ ?_
  · rintro D i x acc H Nx hx ha ⟨nD, s2, h2, ea⟩ hN
    have hi : i < xs.length := (List.getElem?_eq_some_iff.mp hx).1
    have hm := List.mem_of_getElem? hx
    refine ⟨hw x, ht x H _ hm s2 fun H3 s3 => ?_⟩
    cases hp : p x with
    | true =>
      rw [if_pos rfl]
      refine he x H3 _ hm hp (s2.trans s3) fun H4 s4 => push hN ha (s4 _ _ (s3 _ _ h2)) (by omega) fun H5 o5 h5 => ⟨nD, Same.off ((s2.trans s3).trans s4) nD o5, h5, ?_⟩
      rw [ea, take_snoc hx, List.filter_append, List.map_append]
      simp [hp]
    | false =>
      rw [if_neg Bool.false_ne_true]
      refine hN acc H3 (Nat.le_succ_of_le ha) ⟨nD, s2.trans s3, s3 _ _ h2, ?_⟩
      rw [ea, take_snoc hx, List.filter_append, List.map_append]
      simp [hp]
  · rintro D acc H _ ⟨nD, s2, h2, ea⟩
    rw [List.take_length] at ea
    exact hd D H nD s2 (ea ▸ h2)
theorem Cmp.pureL {K : PySem.W.Frag} {a : Addr} {xs : List V} {j : Nat} {te : TE} {vs : List Nat} {σ : L2.St} {H1 : Hp} {Q : VK} (f : V → V) (hS : SqL K H1 a xs) (hz : xs.length ≤ 100000) (hw : ∀ x, wipe ((wipe σ vs).set j (some x)) vs = wipe σ vs)
    (he : ∀ x H2 (R : VK), x ∈ xs → Same H1 H2 → (∀ H3, Same H2 H3 → R (f x) H3) → te ((wipe σ vs).set j (some x)) H2 R)
    (hd : ∀ l H2, H1 l = none → Same H1 H2 → H2 l = some (.lst (xs.map f)) → Q (.ref l) H2) : Cmp (Itl K a) (gName j) tYes te vs σ H1 Q :=
  Cmp.pureF (fun _ => true) f hS hz hw (fun x H2 R _ _ h => h H2 (Same.refl H2)) (fun x H2 R hm _ => he x H2 R hm) fun l H2 n s h => hd l H2 n s (by rw [List.filter_eq_self.mpr (fun _ _ => rfl)] at h; exact h)
theorem Cmp.pureRF {lo : Int} {n : Nat} {j : Nat} {tt : TT} {te : TE} {vs : List Nat} {σ : L2.St} {H1 : Hp} {Q : VK} (p : Nat → Bool) (f : Nat → V) (hz : n ≤ 100000) (hw : ∀ x, wipe ((wipe σ vs).set j (some x)) vs = wipe σ vs)
    (ht : ∀ i H2 (R : Bool → Hp → Prop), i < n → Same H1 H2 → (∀ H3, Same H2 H3 → R (p i) H3) → tt ((wipe σ vs).set j (some (.int (lo + (i : Int))))) H2 R)
    (he : ∀ i H2 (R : VK), i < n → p i = true → Same H1 H2 → (∀ H3, Same H2 H3 → R (f i) H3) → te ((wipe σ vs).set j (some (.int (lo + (i : Int))))) H2 R)
    (hd : ∀ l H2, H1 l = none → Same H1 H2 → H2 l = some (.lst (((List.range n).filter p).map f)) → Q (.ref l) H2) : Cmp (Itr lo n) (gName j) tt te vs σ H1 Q := by
  refine Cmp.range (fun D i acc H => H1 D = none ∧ Same H1 H ∧ H D = some (.lst acc) ∧ acc = ((List.range i).filter p).map f) (fun D H2 nD s2 h2 => ⟨nD, s2, h2, by simp⟩) ?_ ?_
  · rintro D i acc H Nx hi ha ⟨nD, s2, h2, ea⟩ hN
    refine ⟨hw _, ht i H _ hi s2 fun H3 s3 => ?_⟩
    cases hp : p i with
    | true =>
      rw [if_pos rfl]
      refine he i H3 _ hi hp (s2.trans s3) fun H4 s4 => push hN ha (s4 _ _ (s3 _ _ h2)) (by omega) fun H5 o5 h5 => ⟨nD, Same.off ((s2.trans s3).trans s4) nD o5, h5, ?_⟩
      rw [ea, List.range_succ, List.filter_append, List.map_append]
      simp [hp]
    | false =>
      rw [if_neg Bool.false_ne_true]
      refine hN acc H3 (Nat.le_succ_of_le ha) ⟨nD, s2.trans s3, s3 _ _ h2, ?_⟩
      rw [ea, List.range_succ, List.filter_append, List.map_append]
      simp [hp]
  · rintro D acc H _ ⟨nD, s2, h2, ea⟩
    exact hd D H nD s2 (ea ▸ h2)
theorem Cmp.pureR {lo : Int} {n : Nat} {j : Nat} {te : TE} {vs : List Nat} {σ : L2.St} {H1 : Hp} {Q : VK} (f : Nat → V) (hz : n ≤ 100000) (hw : ∀ x, wipe ((wipe σ vs).set j (some x)) vs = wipe σ vs)
    (he : ∀ i H2 (R : VK), i < n → Same H1 H2 → (∀ H3, Same H2 H3 → R (f i) H3) → te ((wipe σ vs).set j (some (.int (lo + (i : Int))))) H2 R)
    (hd : ∀ l H2, H1 l = none → Same H1 H2 → H2 l = some (.lst ((List.range n).map f)) → Q (.ref l) H2) : Cmp (Itr lo n) (gName j) tYes te vs σ H1 Q :=
  Cmp.pureRF (fun _ => true) f hz hw (fun x H2 R _ _ h => h H2 (Same.refl H2)) (fun x H2 R hm _ => he x H2 R hm) fun l H2 n s h => hd l H2 n s (by rw [List.filter_eq_self.mpr (fun _ _ => rfl)] at h; exact h)

theorem sq_true {K : PySem.W.Frag} {H : Hp} {l : Addr} {α : Type} {ys : List α} (h : H l = some (.lst (ys.map fun _ => V.bl true))) : SqL K H l ((ys.map fun _ => true).map V.bl) := by
  rw [List.map_map]
  exact seq_of h
theorem all_true {α : Type} : ∀ ys : List α, (ys.map fun _ => true).all id = true
  | [] => rfl
  | _ :: r => all_true r
theorem cut_to (xs : List V) (j : Nat) : cutV xs none (some (j : Int)) = xs.take j := by
  unfold cutV
  rw [HT.sIx_none, HT.sIx_nat, List.drop_zero, Nat.sub_zero]
  by_cases h : j ≤ xs.length
  · rw [Nat.min_eq_left h]
  · rw [Nat.min_eq_right (by omega), List.take_of_length_le (Nat.le_refl _), List.take_of_length_le (by omega)]
theorem cut_from (xs : List V) (j : Nat) : cutV xs (some (j : Int)) none = xs.drop j := by
  unfold cutV
  rw [HT.sIx_none, HT.sIx_nat]
  by_cases h : j ≤ xs.length
  · rw [Nat.min_eq_left h, List.take_of_length_le (by rw [List.length_drop]; omega)]
  · rw [Nat.min_eq_right (by omega), List.drop_eq_nil_of_le (Nat.le_refl _), List.drop_eq_nil_of_le (by omega), List.take_nil]

/-! ### data -/
def pd : V → PyData
  | .bl b => .bool b
  | .int i => .int i
  | .str x => .str x
  | _ => .none
def isPd : V → Bool
  | .bl _ => true
  | .int _ => true
  | .str x => PyData.strOk x
  | .non => true
  | _ => false
theorem dp_pd {K : PySem.W.Frag} {H : Hp} : ∀ {x : V}, isPd x = true → Dp K H x (pd x)
  | .non, _ => .non
  | .bl b, _ => .bl b
  | .int i, _ => .int i
  | .str x, _ => .str x
theorem dpAll_pd {K : PySem.W.Frag} {H : Hp} : ∀ {xs : List V}, xs.all isPd = true → DpAll K H xs (xs.map pd)
  | [], _ => .nil
  | x :: xs, h => by
    rw [List.all_cons, Bool.and_eq_true] at h
    exact .cons (dp_pd h.1) (dpAll_pd h.2)
theorem ints_pd : ∀ ns : List Int, (ns.map V.int).all isPd = true
  | [] => rfl
  | _ :: r => ints_pd r
theorem dp_lst {K : PySem.W.Frag} {H : Hp} {a : Addr} {xs : List V} (h : SqL K H a xs) (hx : xs.all isPd = true) : Dp K H (.ref a) (.list (xs.map pd)) := .lst h (dpAll_pd hx)
theorem dp_tup {K : PySem.W.Frag} {H : Hp} {a : Addr} {xs : List V} (h : SqT K H a xs) (hx : xs.all isPd = true) : Dp K H (.ref a) (.tuple (xs.map pd)) := .tup h (dpAll_pd hx)
theorem pd_lay : ∀ {x : V}, isPd x = true → (pd x).canLay0 = true
  | .non, _ => rfl
  | .bl _, _ => rfl
  | .int _, _ => rfl
  | .str x, h => h
theorem pd_layAll : ∀ {xs : List V}, xs.all isPd = true → PyData.canLayAll0 (xs.map pd) = true
  | [], _ => rfl
  | x :: xs, h => by
    rw [List.all_cons, Bool.and_eq_true] at h
    show ((pd x).canLay0 && PyData.canLayAll0 (xs.map pd)) = true
    rw [pd_lay h.1, pd_layAll h.2]
    rfl
theorem pd_depth : ∀ x : V, (pd x).depth = 0
  | .non => rfl
  | .bl _ => rfl
  | .int _ => rfl
  | .str _ => rfl
  | .byt _ => rfl
  | .flt _ => rfl
  | .ref _ => rfl
  | .ty _ => rfl

theorem pd_depthAll : ∀ xs : List V, PyData.depthAll (xs.map pd) = 0
  | [] => rfl
  | x :: xs => by
    show max (pd x).depth (PyData.depthAll (xs.map pd)) = 0
    rw [pd_depth, pd_depthAll]
    rfl
theorem shaped_lst {xs : List V} (h : xs.all isPd = true) : SeqAt.shaped (.list (xs.map pd)) = true := by
  have e : (PyData.list (xs.map pd)).depth = 1 := by
    show PyData.depthAll (xs.map pd) + 1 = 1
    rw [pd_depthAll]
  show ((PyData.canLayAll0 (xs.map pd)) && decide ((PyData.list (xs.map pd)).depth ≤ 64)) = true
  rw [pd_layAll h, e]
  rfl
theorem shaped_tup {xs : List V} (h : xs.all isPd = true) : SeqAt.shaped (.tuple (xs.map pd)) = true := by
  have e : (PyData.tuple (xs.map pd)).depth = 1 := by
    show PyData.depthAll (xs.map pd) + 1 = 1
    rw [pd_depthAll]
  show ((PyData.canLayAll0 (xs.map pd)) && decide ((PyData.tuple (xs.map pd)).depth ≤ 64)) = true
  rw [pd_layAll h, e]
  rfl
theorem eqvAll_ints : ∀ ns ms : List Int, PyData.eqvAll ((ns.map V.int).map pd) ((ms.map V.int).map pd) = decide (ns = ms)
  | [], [] => rfl
  | [], _ :: _ => rfl
  | _ :: _, [] => rfl
  | a :: r, b :: t => by
    show ((a == b) && PyData.eqvAll ((r.map V.int).map pd) ((t.map V.int).map pd)) = decide (a :: r = b :: t)
    rw [eqvAll_ints r t]
    by_cases h : a = b
    · subst h
      simp
    · simp [h]
theorem eqv_ints (ns ms : List Int) : PyData.eqv (.list ((ns.map V.int).map pd)) (.list ((ms.map V.int).map pd)) = decide (ns = ms) := eqvAll_ints ns ms
/-- == of two lists of ints -/
theorem eq_ints {K : PySem.W.Frag} {H : Hp} {a b : Addr} {ns ms : List Int} {Q : VK} (ha : SqL K H a (ns.map V.int)) (hb : SqL K H b (ms.map V.int)) (q : Q (.bl (decide (ns = ms))) H) : rEqD K (.ref a) (.ref b) H Q :=
  ⟨_, _, dp_lst ha (ints_pd ns), dp_lst hb (ints_pd ms), shaped_lst (ints_pd ns), shaped_lst (ints_pd ms), by rw [eqv_ints]; exact q⟩
theorem ne_ints {K : PySem.W.Frag} {H : Hp} {a b : Addr} {ns ms : List Int} {Q : VK} (ha : SqL K H a (ns.map V.int)) (hb : SqL K H b (ms.map V.int)) (q : Q (.bl (!decide (ns = ms))) H) : rNeD K (.ref a) (.ref b) H Q :=
  ⟨_, _, dp_lst ha (ints_pd ns), dp_lst hb (ints_pd ms), shaped_lst (ints_pd ns), shaped_lst (ints_pd ms), by rw [eqv_ints]; exact q⟩
/-- == of equal data -/
theorem eq_tups {K : PySem.W.Frag} {H : Hp} {a b : Addr} {xs : List V} {Q : VK} (ha : SqT K H a xs) (hb : SqT K H b xs) (hx : xs.all isPd = true) (q : Q (.bl true) H) : rEqD K (.ref a) (.ref b) H Q :=
  ⟨_, _, dp_tup ha hx, dp_tup hb hx, shaped_tup hx, shaped_tup hx, by rw [SeqAt.eqv_refl (.tuple (xs.map pd)) (show PyData.canLayAll0 (xs.map pd) = true from pd_layAll hx)]; exact q⟩

/-- the type of a list, of a tuple, of an int that is told -/
theorem tyv_list {K : PySem.W.Frag} {H : Hp} {a : Addr} {xs : List V} (h : SqL K H a xs) : tyV K "list" (.ref a) H := .inl ⟨rfl, _, h⟩
theorem ty_int {K : PySem.W.Frag} {H : Hp} {i : Int} : TyX K H (.int i) (.type "int") := .base (.int i)
theorem ty_lst {K : PySem.W.Frag} {H : Hp} {a : Addr} {xs : List V} (h : H a = some (.lst xs)) : TyX K H (.ref a) (.type "list") := .base (.lst h)
theorem ty_tup {K : PySem.W.Frag} {H : Hp} {a : Addr} {xs : List V} (h : H a = some (.tup xs)) : TyX K H (.ref a) (.type "tuple") := .base (.tup h)

theorem scal_ii {i j : Int} : scal (.int i) (.int j) = true := rfl
theorem scal_bb {i j : Bool} : scal (.bl i) (.bl j) = true := rfl
theorem scal_ss {i j : Str} : scal (.str i) (.str j) = true := rfl
theorem scal_nn : scal .non .non = true := rfl
theorem scal_ni {j : Int} : scal .non (.int j) = true := rfl
theorem scal_in {j : Int} : scal (.int j) .non = true := rfl
theorem scal_ns {j : Str} : scal .non (.str j) = true := rfl
theorem scal_sn {j : Str} : scal (.str j) .non = true := rfl
theorem scal_is {i : Int} {j : Str} : scal (.int i) (.str j) = true := rfl
theorem scal_si {i : Int} {j : Str} : scal (.str j) (.int i) = true := rfl

/-! == of lists of tuples -/
def pdT (d : List V) : PyData := .tuple (d.map pd)
theorem dp_tups {K : PySem.W.Frag} {H : Hp} : ∀ {xs : List V} {ds : List (List V)}, Tups K H xs ds → (∀ d ∈ ds, d.all isPd = true) → DpAll K H xs (ds.map pdT)
  | _, _, .nil, _ => .nil
  | _, _, .cons (b := d) ⟨a, e, h⟩ t, hd => by
    subst e
    exact .cons (dp_tup h (hd d List.mem_cons_self)) (dp_tups t fun d h => hd d (List.mem_cons_of_mem _ h))
theorem lay_tups : ∀ {ds : List (List V)}, (∀ d ∈ ds, d.all isPd = true) → PyData.canLayAll0 (ds.map pdT) = true
  | [], _ => rfl
  | d :: r, h => by
    show (PyData.canLayAll0 (d.map pd) && PyData.canLayAll0 (r.map pdT)) = true
    rw [pd_layAll (h d List.mem_cons_self), lay_tups fun d hd => h d (List.mem_cons_of_mem _ hd)]
    rfl
theorem depth_tups : ∀ ds : List (List V), PyData.depthAll (ds.map pdT) ≤ 1
  | [] => by show 0 ≤ 1; decide
  | d :: r => by
    show max (PyData.depthAll (d.map pd) + 1) (PyData.depthAll (r.map pdT)) ≤ 1
    rw [pd_depthAll]
    have := depth_tups r
    omega
theorem shaped_tups {ds : List (List V)} (h : ∀ d ∈ ds, d.all isPd = true) : SeqAt.shaped (.list (ds.map pdT)) = true := by
  have e : (PyData.list (ds.map pdT)).depth ≤ 64 := by
    show PyData.depthAll (ds.map pdT) + 1 ≤ 64
    have := depth_tups ds
    omega
  show ((PyData.canLayAll0 (ds.map pdT)) && decide ((PyData.list (ds.map pdT)).depth ≤ 64)) = true
  rw [lay_tups h, decide_eq_true e]
  rfl
theorem eqv_tups {ds : List (List V)} (h : ∀ d ∈ ds, d.all isPd = true) : PyData.eqv (.list (ds.map pdT)) (.list (ds.map pdT)) = true := SeqAt.eqv_refl (.list (ds.map pdT)) (show PyData.canLayAll0 (ds.map pdT) = true from lay_tups h)
theorem eq_tupsL {K : PySem.W.Frag} {H : Hp} {a b : Addr} {xs ys : List V} {ds : List (List V)} {Q : VK} (ha : SqL K H a xs) (hb : SqL K H b ys) (t : Tups K H xs ds) (u : Tups K H ys ds) (hd : ∀ d ∈ ds, d.all isPd = true) (q : Q (.bl true) H) : rEqD K (.ref a) (.ref b) H Q :=
  ⟨_, _, .lst ha (dp_tups t hd), .lst hb (dp_tups u hd), shaped_tups hd, shaped_tups hd, by rw [eqv_tups hd]; exact q⟩
theorem ne_tupsL {K : PySem.W.Frag} {H : Hp} {a b : Addr} {xs ys : List V} {ds : List (List V)} {Q : VK} (ha : SqL K H a xs) (hb : SqL K H b ys) (t : Tups K H xs ds) (u : Tups K H ys ds) (hd : ∀ d ∈ ds, d.all isPd = true) (q : Q (.bl false) H) : rNeD K (.ref a) (.ref b) H Q :=
  ⟨_, _, .lst ha (dp_tups t hd), .lst hb (dp_tups u hd), shaped_tups hd, shaped_tups hd, by rw [eqv_tups hd]; exact q⟩

/-! ### list + list, whoever holds them -/
def rCatR (K : PySem.W.Frag) : R2 := fun x y H Q => ∃ l b xs zs, x = .ref l ∧ y = .ref b ∧ SqL K H l xs ∧ SqL K H b zs ∧ xs.length + zs.length ≤ sizeLine ∧ New H (.lst (xs ++ zs)) fun p H2 => Q (.ref p) H2
theorem op_catS {X : Cx} {K : PySem.W.Frag} (h : X.K = K := by rfl) : OpR X (binaryOp .Add) (rCatR K) := by
  subst h
  intro pins s σ H x y v u Q I rx ry h
  obtain ⟨l, b, xs, zs, rfl, rfl, hH, hB, hz, q⟩ := h
  cases rx
  cases ry
  obtain ⟨its, r, ⟨⟨cls, dd, dt, sl⟩, n, e, hc, hd0, hd⟩, hz1⟩ := I.list hH
  obtain ⟨its2, r2, ⟨⟨cls2, dd2, dt2, sl2⟩, n2, e2, hc2, hd02, hd2⟩, hz2⟩ := I.list hB
  simp only at hc hd hc2 hd2
  subst hc hd hc2 hd2
  have hl := r.length
  have hl2 := r2.length
  have ea : its.toArray ++ its2.toArray = (its ++ its2).toArray := by simp
  refine concat_meets ⟨_, e, rfl⟩ ⟨_, e2, rfl⟩ noFill_list_add seq_list_add PySem.F.slot_list_add PySem.F.entry_list_add (PySem.F.args_list_add_2 _ _) (list_addW l b its.toArray its2.toArray n n2 dd dd2 sl sl2 (by rw [List.size_toArray, List.size_toArray]; omega)) ⟨e, e2, ?_⟩
  rw [ea]
  exact ⟨.ref _, _, I.lnew (t' := s.toks) (r.append r2) (by rw [List.length_append]; omega), rfl, q _ I.fresh⟩

/-! ### int(x), [x] * n, == of equal lists -/
def rInt1 : List V → Hp → VK → Prop := fun xs H Q => (∃ i, xs = [.int i] ∧ Q (.int i) H) ∨ ∃ k, xs = [.bl k] ∧ Q (.int (if k then 1 else 0)) H
theorem call_int1R {X : Cx} : CallR X (.type "int") rInt1 := call_int1
theorem rRep_n : rRep = fun x y H Q => ∃ l k xs, x = .ref l ∧ y = .int k ∧ H l = some (.lst xs) ∧ -(2 ^ 63) ≤ k ∧ k < 2 ^ 63 ∧ xs.length * k.toNat ≤ sizeLine ∧ New H (.lst (List.replicate k.toNat xs).flatten) fun p H2 => Q (.ref p) H2 := rfl
theorem eq_lst {K : PySem.W.Frag} {H : Hp} {a b : Addr} {xs : List V} {Q : VK} (ha : SqL K H a xs) (hb : SqL K H b xs) (hx : xs.all isPd = true) (q : Q (.bl true) H) : rEqD K (.ref a) (.ref b) H Q :=
  ⟨_, _, dp_lst ha hx, dp_lst hb hx, shaped_lst hx, shaped_lst hx, by rw [SeqAt.eqv_refl (.list (xs.map pd)) (show PyData.canLayAll0 (xs.map pd) = true from pd_layAll hx)]; exact q⟩
theorem ne_lst {K : PySem.W.Frag} {H : Hp} {a b : Addr} {xs : List V} {Q : VK} (ha : SqL K H a xs) (hb : SqL K H b xs) (hx : xs.all isPd = true) (q : Q (.bl false) H) : rNeD K (.ref a) (.ref b) H Q :=
  ⟨_, _, dp_lst ha hx, dp_lst hb hx, shaped_lst hx, shaped_lst hx, by rw [SeqAt.eqv_refl (.list (xs.map pd)) (show PyData.canLayAll0 (xs.map pd) = true from pd_layAll hx)]; exact q⟩
theorem cut_init (xs : List V) (x : V) : cutV (xs ++ [x]) none (some (-1)) = xs := by
  unfold cutV HT.sIx
  simp only [List.length_append, List.length_singleton, List.drop_zero, Nat.sub_zero]
  rw [if_pos (by decide), show (-1 + ((xs.length + 1 : Nat) : Int)).toNat = xs.length by omega, List.take_append_of_le_length (Nat.le_refl _), List.take_length]
theorem cut_mid (xs : List V) (i j : Nat) : cutV xs (some (i : Int)) (some (j : Int)) = (xs.drop i).take (j - i) := by
  unfold cutV
  rw [HT.sIx_nat, HT.sIx_nat]
  by_cases h : i ≤ xs.length
  · rw [Nat.min_eq_left h]
    by_cases h2 : j ≤ xs.length
    · rw [Nat.min_eq_left h2]
    · rw [Nat.min_eq_right (by omega), List.take_of_length_le (by rw [List.length_drop]; omega), List.take_of_length_le (by rw [List.length_drop]; omega)]
  · have e : min i xs.length = xs.length := Nat.min_eq_right (by omega)
    rw [e, List.drop_eq_nil_of_le (Nat.le_refl _), List.drop_eq_nil_of_le (show xs.length ≤ i by omega), List.take_nil, List.take_nil]
/-! ### len(set(xs)) of ints -/
def tLenSetS (K : PySem.W.Frag) (ta : TE) : TE := fun σ H Q => ta σ H fun x H1 => ∃ (l : Addr) (ns : List Int), x = .ref l ∧ SqL K H1 l (ns.map V.int) ∧ ns.length ≤ 4000 ∧ ∀ ds : List Int, ds.Nodup → (∀ k, k ∈ ds ↔ k ∈ ns) → Q (.int (ds.length : Nat)) H1
theorem firstMet_nd (val : Nat → Int) : ∀ i, (PyProof.Rows.firstMet val i).Nodup
  | 0 => List.nodup_nil
  | i + 1 => by
    rw [PyProof.Rows.firstMet_succ]
    unfold PyProof.Rows.step_dedup
    split
    · exact firstMet_nd val i
    · rename_i h
      rw [List.nodup_append]
      refine ⟨firstMet_nd val i, List.nodup_cons.mpr ⟨List.not_mem_nil, List.nodup_nil⟩, fun a ha b hb e => h (List.any_eq_true.mpr ⟨a, ha, ?_⟩)⟩
      rw [List.mem_singleton] at hb
      rw [e, hb]
      exact beq_self_eq_true _
theorem firstMet_mem (ns : List Int) (k : Int) : k ∈ PyProof.Rows.firstMet (fun i => ns.getD i 0) ns.length ↔ k ∈ ns := by
  have h := PyProof.Rows.firstMet_any (fun i => ns.getD i 0) ns.length k
  have e : (List.range ns.length).map (fun i => ns.getD i 0) = ns := by
    apply List.ext_getElem
    · rw [List.length_map, List.length_range]
    · intro i h1 h2
      rw [List.getElem_map, List.getElem_range, List.getD_eq_getElem?_getD, List.getElem?_eq_getElem h2]
      rfl
  rw [e] at h
  have mem : ∀ l : List Int, l.any (· == k) = true ↔ k ∈ l := fun l => by
    rw [List.any_eq_true]
    constructor
    · rintro ⟨x, hx, e⟩
      rw [← eq_of_beq e]
      exact hx
    · intro hk
      exact ⟨k, hk, beq_self_eq_true k⟩
  rw [← mem, ← mem, h]
theorem pe_lenSetS {X : Cx} {K : PySem.W.Frag} {a : Expr} {ta : TE} {p p2 q pos : Pos} (hg : Gl X "len") (hm : X.mg "len" = none) (hg2 : Gl X "set") (hm2 : X.mg "set" = none) (ha : PE X a ta) (hc : X.calm = true := by rfl)
    (na : starEach [a] X.env = (false, eval a X.env) :: starEach [] X.env := by rfl) (hK : X.K = K := by rfl) : PE X (.Call (.Name "len" p) [.Call (.Name "set" p2) [a] [] q] [] pos) (tLenSetS K ta) := by
  subst hK
  refine ⟨fun pins s σ H Q I h => ?_⟩
  refine Call_ (ld_blt I hg hm boot_len ?_)
  refine PyProof.Rows.callWith_builtin1 (PyProof.Rows.args_cons ?_ rfl) rfl rfl
  refine Call_ (ld_blt I hg2 hm2 boot_set ?_)
  refine PyProof.Rows.callWith_type1 (PyProof.Rows.args_cons (thn (ha.run pins s σ H _ I h) fun v s1 ⟨x, H1, I1, r1, q1⟩ => PyProof.Rows.args_nil ?_) na) na rfl
  obtain ⟨l, ns, rfl, hq, hl, q1⟩ := q1
  cases r1
  obtain ⟨its, r, pl, hz⟩ := I1.list hq
  have hlen : its.toArray.size = ns.length := by rw [List.size_toArray, ← r.length, List.length_map]
  refine call_set_list (I1.ok.hd hc) pl.isList (by simpa using RZ.intsAre_vals r) (by rw [hlen]; unfold scanBound; omega) fun h' tk hS hk => ?_
  refine PyProof.Rows.args_nil ?_
  rw [hlen] at hS
  have hlt := PyProof.Rows.firstMet_length_le (fun i => ns.getD i 0) ns.length
  have q2 := q1 (PyProof.Rows.firstMet (fun i => ns.getD i 0) ns.length) (firstMet_nd _ _) (firstMet_mem ns)
  generalize PyProof.Rows.firstMet (fun i => ns.getD i 0) ns.length = D at hS hlt q2
  obtain ⟨o, es, ep, t, ho, hex, hd, _, _, _, hf, hn⟩ := hS
  have I2 : Inv X pins σ H1 { s1 with heap := h', toks := tk } := I1.kept fun b o e => hk b o (Heap.lt_size e) e
  exact call_len_set ho hex hd hf (by rw [hn] <;> omega) ⟨.int D.length, H1, I2.tok _, ⟨_, by rw [hn]⟩, q2⟩
theorem eqV_int (a n : Int) : eqV (.int a) (.int n) = decide (a = n) := by
  unfold eqV
  rfl
theorem idx_at {D : List Int} {z : Int} (h : z ∈ D) : D[D.idxOf z]? = some z := by
  have hx := List.idxOf_lt_length_of_mem h
  rw [List.getElem?_eq_getElem hx, List.getElem_idxOf]
theorem idx_ne {D : List Int} {z : Int} (m : Nat) (hm : m < D.idxOf z) : D[m]? ≠ some z := fun e => by
  obtain ⟨h1, h2⟩ := List.getElem?_eq_some_iff.mp e
  have := List.not_of_lt_findIdx (p := (· == z)) (xs := D) (i := m) hm
  simp [h2] at this
/-! ### things that stay -/
inductive Th (K : PySem.W.Frag) (H : Hp) : V → String → Prop
  | int (i : Int) : Th K H (.int i) "int"
  | bl (b : Bool) : Th K H (.bl b) "bool"
  | non : Th K H .non "NoneType"
  | str (z : Str) : Th K H (.str z) "str"
  | lst {a : Addr} {xs : List V} (h : SqL K H a xs) : Th K H (.ref a) "list"
  | tup {a : Addr} {xs : List V} (h : SqT K H a xs) : Th K H (.ref a) "tuple"
  | dK {a : Addr} {xs : List (Key × V)} (h : H a = some (.dK xs)) : Th K H (.ref a) "dict"
theorem Th.thg {K : PySem.W.Frag} {H : Hp} {x : V} {T : String} (t : Th K H x T) : Thg K H x T := by
  cases t with
  | int i => exact thg_int
  | bl b => exact thg_bl
  | non => exact thg_non
  | str z => exact thg_str
  | lst h => exact thg_seq h
  | tup h => exact thg_tup h
  | dK h => exact thg_dK h
theorem Th.same {K : PySem.W.Frag} {H H' : Hp} {x : V} {T : String} (t : Th K H x T) (s : Same H H') : Th K H' x T := by
  cases t with
  | int i => exact .int i
  | bl b => exact .bl b
  | non => exact .non
  | str z => exact .str z
  | lst h => exact .lst (s.seq h)
  | tup h => exact .tup (Same.seqT s h)
  | dK h => exact .dK (s _ _ h)
theorem cut_last (xs : List V) : cutV xs (some (-1)) none = xs.drop (xs.length - 1) := by
  unfold cutV HT.sIx
  dsimp only
  rw [if_pos (by decide), show (-1 + (xs.length : Int)).toNat = xs.length - 1 by omega, List.take_of_length_le (by rw [List.length_drop]; omega)]
theorem tDNewK_n : tDNewK = fun _ H Q => New H (.dK []) fun p H2 => Q (.ref p) H2 := rfl
def rStrI : List V → Hp → VK → Prop := fun xs H Q => ∃ i : Int, xs = [.int i] ∧ i.natAbs.log2 < 1920 ∧ Q (.str (toString i)) H
theorem call_strI {X : Cx} : CallR X (.type "str") rStrI := call_str_int
end Rb

set_option Elab.async false
set_option linter.all false
set_option maxRecDepth 100000
set_option maxHeartbeats 4000000
/-! own exceptions: made, raised, caught -/
namespace Rx
open PySem PySem.Spec PyProof.Rows L2 Rb
/-! ### RoomError.__init__(self, ..), RoomError a class without __init__ -/
section
variable {X : Cx} {o e : Expr} {es : List Expr} {to te : TE} {ta : TA} {f x : Str} {p p' p1 p2 pos : Pos}
theorem pe_roinit {K : PySem.W.Frag} {pl : Sem Bool} {CR : Addr} {mc : Value} (hg : Gl X x) (hm : X.mg x = some (.ref CR)) (r : ClX.CRead X.K CR mc) (vV : PySem.W.findCls X.K (.ref CR) mc "__init__" = some (.val (.builtin "ValueError.__init__"))) (ha : PA X (e :: es) ta)
    (hdb : (x == ("__debug__" : Str)) = false := by decide)
    (hc : eval (.Call (.Attribute (.Name x p1) "__init__" p2) (e :: es) [] pos) X.env = (do
      let ov ← eval (.Name x p1) X.env
      standAt p2.atName
      let (f, first) ← holding [ov] (getMethod ov "__init__" pl)
      callWith pos f first (backTo pos (starEach (e :: es) X.env)) (backToKw pos (keywordEach [] X.env))) := by rfl)
    (he : starEach (e :: es) X.env = (false, eval e X.env) :: starEach es X.env := by rfl) (hpl : (backTo pos (starEach es X.env)).any (·.1) = false := by rfl) (hK : X.K = K := by rfl) :
    PE X (.Call (.Attribute (.Name x p1) "__init__" p2) (e :: es) [] pos) (tVeI K ta) := by
  subst hK
  refine ⟨fun pins s σ H Q I h => ?_⟩
  refine PySem.W.methodCall_KW (ld_glob I hg hm ?_ hdb) hc
  refine PySem.W.method_cls I.kIn r.ga (PySem.W.cls_value I.kIn r.rd vV (by decide +kernel) ?_)
  show wpAny _ _ (callWith pos (Value.builtin "ValueError.__init__") [] (backTo pos (starEach (e :: es) X.env)) []) _ _ _
  refine PyProof.Rows.callWith_method1 (thn (ha.run pos pins _ σ H _ (I.tok _) h) fun us s1 ⟨vs, H1, I1, r1, a, C, ws, ev, hl, T, ea, q⟩ => ?_) he hpl
  subst ev
  cases r1 with
  | @cons _ u0 _ ur ra rw' =>
    obtain rfl : u0 = Value.ref a := ra
    have hlen : ur.length ≤ sizeLine := by
      rw [← Paired.length rw', sizeLine_eq]
      omega
    exact oinit_ok T I1 ea hlen fun s' J => ⟨.non, H1, J, rfl, q⟩
theorem ps_ostK {K : PySem.W.Frag} (ho : PE X o to) (he : PE X e te) (hs : swapsWith e (some (.Attribute o f p')) pos.line X.env = pure false := by rfl) (hK : X.K = K := by rfl) : PS X (.Assign [.Attribute o f p'] e pos) (tOst K f to te) := by
  subst hK
  exact ps_ost ho he hs
end
/-! ### an exception's class, with its __init__ -/
/-- what the text says of the exception class at C -/
structure XcK (K : PySem.W.Frag) (C : Addr) : Prop where
  oc : OexC K C
  xf : XfC K C
structure Xn (P : Program) (w : World) (K : PySem.W.Frag) (mg : Str → Option Value) (base : Heap) (k : Nat) (C : Addr) (x : Str) (ps : List Str) (sp : Sp) : Prop where
  cls : XcK K C
  ex : ∃ f fd, PySem.W.findIn K (.ref C) "__init__" = some (some (.ref f)) ∧ PySem.W.typeIn K (.ref f) = some (.type "function") ∧ FnOk P w K mg base CX0 k f fd ps sp ∧ mg x = some (.ref C) ∧ Binds K fd ps []
/-- the exception's fields -/
def XObj (H : Hp) (d : Addr) (fs : List (Str × V)) : Prop := H d = some (.xd fs)
def spX (C : Addr) (ns : List Str) : Sp := fun vs H Q _ => ∃ (a : Addr) (ys : List V), vs = .ref a :: ys ∧ ys.length = ns.length ∧ H a = some (exo a C none) ∧ ∀ dx H1, H dx = none → dx ≠ a → H1 a = some (exo a C (some dx)) → H1 dx = some (exd dx ((ns.zip ys).reverse)) → (∀ b, b ≠ a → b ≠ dx → H1 b = H b) → Q .non H1
/-- raise C(e, ..): the fields by name -/
def tRz (C : Addr) (ns : List Str) (ta : TA) (W : Value → Option Addr → L2.St → Hp → Prop) : TS := fun _ σ H => ta σ H fun ys H1 => ys.length = ns.length ∧ ∀ d H2, H1 d = none → Same H1 H2 → H2 d = some (.xd (ns.zip ys).reverse) → W (.ref C) (some d) σ H2
/-- a reading of arguments that may be weakened -/
def tWeak (ta : TA) : TA := fun σ H R => ∃ R0 : List V → Hp → Prop, ta σ H R0 ∧ ∀ ys H1, R0 ys H1 → R ys H1
theorem pa_weak {X : Cx} {es : List Expr} {ta : TA} (ha : PA X es ta) : PA X es (tWeak ta) := by
  refine ⟨fun pos pins s σ H Q I h => ?_⟩
  obtain ⟨R0, h0, hi⟩ := h
  exact thn (ha.run pos pins s σ H R0 I h0) fun us s1 ⟨vs, H1, I1, r1, q1⟩ => ⟨vs, H1, I1, r1, hi _ _ q1⟩
theorem ps_rz {X : Cx} {k : Nat} {C : Addr} {x : Str} {ps ns : List Str} {e : Expr} {es : List Expr} {ta : TA} {p pos pos' : Pos} {W : WX} (N : Xn X.prog X.w X.K X.mg X.base k C x ps (spX C ns)) (hc : X.calm = true) (tk : Takes X W) (hr : Room (k + 1) X.A) (hg : Gl X x) (hx : Passes CX0 X (fun _ _ _ => False)) (ha : PA X (e :: es) ta)
    (hns : ns.length ≤ 900 := by decide) (hdb : (x == ("__debug__" : Str)) = false := by decide) (he : starEach (e :: es) X.env = (false, eval e X.env) :: starEach es X.env := by rfl) (hpl : (backTo pos (starEach es X.env)).any (·.1) = false := by rfl) :
    PS X (.Raise (some (.Call (.Name x p) (e :: es) [] pos)) none pos') (tRz C ns ta W) := by
  obtain ⟨f, fd, iC, tI, F, hm, hb⟩ := N.ex
  have mk : PMk X (.Call (.Name x p) (e :: es) [] pos) (tMkO C (spX C ns) [] (tWeak ta)) := pmk_oex N.cls.oc iC tI F hr hb .nil hx hg hm (pa_weak ha) hdb he hpl
  have ps := ps_raise (W := W) (pos := pos') hc tk mk
  refine ⟨fun pins s σ H D I h => ps.run pins s σ H D I ?_⟩
  refine ⟨_, h, fun ys H1 ⟨hl, q⟩ => ⟨by omega, fun a na => ⟨a, ys, by rw [List.append_nil], hl, upd_same, fun dx H2 nd nda hx hd hk => ⟨rfl, dx, _, hx, hd, ?_, ?_⟩⟩⟩⟩
  · rw [upd_ne nda] at nd
    exact nd
  · rw [upd_ne nda] at nd
    refine q dx _ nd (fun b o hb => ?_) upd_same
    have nbd := ne_of_none hb nd
    have nba := ne_of_none hb na
    rw [upd_ne nbd, del_ne nba, hk b nba nbd, upd_ne nba]
    exact hb
/-! ### calls that may raise, what is raised told at the caller's slots -/
theorem passF {X : Cx} : Passes (L2.CX X.prog X.w) X E0 := fun _ _ _ _ _ _ _ ⟨_, _, _, _, _, _, _, _, _, _, _, _, q⟩ => q.elim
section
variable {X : Cx} {CX : CXT} {k : Nat} {C : Addr} {ps : List Str} {sp : Sp} {E : L2.St → XK} {x m : Str} {p pos apos : Pos} {e o : Expr} {es : List Expr} {t : TA} {ta : TE}
theorem pe_cdS (D : Dn X.prog X.w X.K X.mg X.base CX k x ps sp) (hr : Room k X.A) (hg : Gl X x) (hx : ∀ σ, PassesAt CX X σ (E σ)) (ha : PA X (e :: es) t)
    (hdb : (x == ("__debug__" : Str)) = false := by decide) (he : starEach (e :: es) X.env = (false, eval e X.env) :: starEach es X.env := by rfl) (hpl : (backTo pos (starEach es X.env)).any (·.1) = false := by rfl) :
    PE X (.Call (.Name x p) (e :: es) [] pos) (tCallS sp E t) := by
  obtain ⟨f, fd, F, m, kp, b⟩ := D.ex
  exact pe_callS F hr hg m kp b hx ha hdb he hpl
def tMethX (C : Addr) (m : Str) (sp : Sp) (E : L2.St → XK) (ta : TE) (t : TA) : TE := fun σ H Q => ta σ H fun x H1 => ∃ a dx fs, x = .ref a ∧ H1 a = some (.ins C dx fs) ∧ fs.lookup m = none ∧ t σ H1 fun vs H2 => sp (x :: vs) H2 Q (E σ)
theorem pe_mdS {pl : Sem Bool} (ho : PE X o ta) (N : Nn X.prog X.w X.K X.mg X.base CX k C m ps sp) (hr : Room k X.A) (hx : ∀ σ, PassesAt CX X σ (E σ)) (ha : PA X (e :: es) t)
    (hst : starEach (e :: es) X.env = (false, eval e X.env) :: starEach es X.env := by rfl) (hpl : (backTo pos (starEach es X.env)).any (·.1) = false := by rfl)
    (ht : eval (.Call (.Attribute o m apos) (e :: es) [] pos) X.env = (do
      let ov ← eval o X.env
      standAt apos.atName
      let (f, first) ← holding [ov] (getMethod ov m pl)
      callWith pos f first (backTo pos (starEach (e :: es) X.env)) (backToKw pos (keywordEach [] X.env))) := by rfl) : PE X (.Call (.Attribute o m apos) (e :: es) [] pos) (tMethX C m sp E ta t) := by
  obtain ⟨f, fd, hm, F, hb⟩ := N.ex
  refine ⟨fun pins s σ H Q I h => ?_⟩
  refine PySem.W.methodCall_KW (pl := pl) (thn (ho.run pins s σ H _ I h) fun u s1 ⟨x, H1, I1, rx, a, dx, fs, ex, ea, l, q⟩ => ?_) ht
  subst ex
  obtain rfl : u = Value.ref a := rx
  refine getmeth_ok I1 ea N.cl hm l ?_
  refine PySem.W.callWith_K (first := [.ref a]) (h₀ := X.base) I.ok.mod.kin hm.kp (thn (ha.run pos pins s1 σ H1 _ I1 q) fun us s2 ⟨vs, H2, I2, r, q2⟩ => ⟨I2.kIn, ?_⟩) hst hpl
  exact run_fnS (us := .ref a :: us) (vs := .ref a :: vs) F hr hb (hx σ) I2 (.cons rfl r) q2
def tMakeX (C : Addr) (sp : Sp) (E : L2.St → XK) (t : TA) : TE := fun σ H Q => t σ H fun vs H1 => Made H1 C fun x H2 => sp (.ref x :: vs) H2 (fun v H3 => v = .non ∧ Q (.ref x) H3) (E σ)
theorem run_makeS {pins : List (Addr × Obj)} {σ : L2.St} {H : Hp} {s : Shared} {Q : VK} {f : Addr} {fd : FuncData} {us : List Value} {vs : List V} (M : Mk X.K C f) (F : FnOk X.prog X.w X.K X.mg X.base CX k f fd ps sp) (hr : Room (k + 1) X.A) (hb : Binds X.K fd ps [])
    (hx : PassesAt CX X σ (E σ)) (I : Inv X pins σ H s) (r : Vals vs us)
    (h : ∀ x dx, H x = none → H dx = none → dx ≠ x → sp (.ref x :: vs) (upd (upd H dx (.own x)) x (.ins C dx [])) (fun v H2 => v = .non ∧ Q (.ref x) H2) (E σ)) :
    wpAny (model X.prog X.w) X.A (call (.ref C) us) (EP X pins σ Q) X.xe s := by
  have hq := h (s.heap.objs.size + 1) s.heap.objs.size (I.hok.fresh (Nat.le_succ _)) (I.hok.fresh (Nat.le_refl _)) (Nat.ne_of_lt (Nat.lt_succ_self _))
  have I2 := Inv.made (C := C) I
  have r2 : Vals (V.ref (s.heap.objs.size + 1) :: vs) (Value.ref (s.heap.objs.size + 1) :: us) := .cons rfl r
  have hl : (Value.ref (s.heap.objs.size + 1) :: us).length = ps.length := by
    have e := r2.length
    rw [F.len _ _ _ _ hq] at e
    exact e.symm
  have b := hb { s with heap := _, toks := _ } (Value.ref (s.heap.objs.size + 1) :: us) I2.kIn (by rw [List.append_nil]; exact hl)
  rw [List.append_nil] at b
  refine wpAny_call (make_map (f := f) I.kIn M.makes M.init (beq_iff_eq.mp M.fn) (codeAny_mono (F.run _ X.stack _ _ ⟨Value.ref (s.heap.objs.size + 1) :: us, []⟩ (Value.ref (s.heap.objs.size + 1) :: us) _ _ (E σ) (hr.make C us [])
    (I2.env0.make C us []) b r2 hq) fun r s' hq' => ?_))
  cases r with
  | error e => exact hx pins _ _ e s' I2 hq'
  | ok fl =>
    cases fl with
    | ret u =>
      obtain ⟨v, H', I3, rv, ev, q3⟩ := I2.after hq'
      subst ev
      exact ⟨rv, ⟨V.ref (s.heap.objs.size + 1), H', I3, rfl, q3⟩⟩
    | next => exact False.elim hq'
    | brk => exact False.elim hq'
    | cont => exact False.elim hq'
theorem pe_mkS (M : Mn X.prog X.w X.K X.mg X.base CX k C x ps sp) (hr : Room (k + 1) X.A) (hg : Gl X x) (hx : ∀ σ, PassesAt CX X σ (E σ)) (ha : PA X (e :: es) t)
    (hdb : (x == ("__debug__" : Str)) = false := by decide) (he : starEach (e :: es) X.env = (false, eval e X.env) :: starEach es X.env := by rfl) (hpl : (backTo pos (starEach es X.env)).any (·.1) = false := by rfl) :
    PE X (.Call (.Name x p) (e :: es) [] pos) (tMakeX C sp E t) := by
  obtain ⟨f, fd, mk, F, hm, b⟩ := M.ex
  refine ⟨fun pins s σ H Q I h => ?_⟩
  refine wpAny_Call_Name_kw (ld_glob I hg hm ?_ hdb)
  refine PySem.W.callWith_K (h₀ := X.base) I.ok.mod.kin mk.kp (thn (ha.run pos pins s σ H _ I h) fun us s1 ⟨vs, H1, I1, r, q⟩ => ⟨I1.kIn, ?_⟩) he hpl
  exact run_makeS mk F hr b (hx σ) I1 r q
end
/-! ### a caught exception's field -/
def tXfA (K : PySem.W.Frag) (a : Addr) (cls : Value) (d : Option Addr) (f : Str) (te : TE) : TE := fun σ H Q => te σ H fun x H1 => x = .ref a ∧ ∃ C : Addr, cls = .ref C ∧ XfC K C ∧ PySem.W.findIn K (.ref C) f = some none ∧ ∃ (dd : Addr) (fs : List (Str × V)) (v : V), d = some dd ∧ H1 dd = some (.xd fs) ∧ fs.lookup f = some v ∧ Q v H1
theorem pe_xfA {X : Cx} {K : PySem.W.Frag} {a : Addr} {oe : Obj} {cls : Value} {d : Option Addr} {pn : List (Addr × Obj)} {e : Expr} {te : TE} {pos : Pos} {n : Str} (hz : Zc cls d oe) (hf : ∃ vs, oe.data = .fields vs) (he : PE (X.suite a ((a, oe) :: pn)) e te) (hb : attributeBase e n X.env (eval e X.env) = eval e X.env := by rfl) (hK : X.K = K := by rfl) :
    PE (X.suite a ((a, oe) :: pn)) (.Attribute e n pos) (tXfA K a cls d n te) := by
  subst hK
  refine ⟨fun pins s σ H Q I h => ?_⟩
  refine attr_of hb (thn (he.run pins s σ H _ I h) fun u s1 hh => ?_)
  obtain ⟨x, H1, I1, rx, ex, C, ec, T, hno, dd, fs, v, ed, ea, l, q⟩ := hh
  subst ex
  obtain rfl : u = Value.ref a := rx
  subst ec
  subst ed
  obtain ⟨ha, _⟩ := I1.pin (a, oe) (List.mem_append_left _ List.mem_cons_self)
  obtain ⟨vs, hd⟩ := hf
  have hx : ObjOk X.prog X.w H1 s1.heap dd (.xd fs) := I1.hok dd _ ea
  obtain ⟨mA, hns, hr⟩ := hx
  obtain ⟨od, ho, hl⟩ := lookIn_ns hns
  obtain ⟨u, hu, ru⟩ := RelO.some_of (v := v) (o := mA n) (by rw [← l]; exact hr n)
  have J : PySem.W.InstAt s1.heap a oe C (some od) := ⟨ha, hz.1, by unfold PySem.W.notCls; rw [hd] <;> rfl, by rw [hz.2]; exact ho⟩
  exact HandSPX.exc_get I1.kIn J T.ga T.gg T.exC (PySem.W.findObj_own T.hdC hno rfl (by rw [hl, hu])) (handed_of ru) ⟨v, H1, I1.tok _, ru, q⟩
end Rx
namespace Rx
open PySem PySem.Spec PyProof.Rows L2 Rb
theorem exm_of2 {K : PySem.W.Frag} {C : Addr} {cls : Value} {b : Bool} (h1 : PySem.W.subIn K (.ref C) (.type "BaseException") = some true) (hdct : PySem.W.hasDictIn K C = true) (ht : PySem.W.typeIn K (.ref C) = some (.type "type")) (h4 : PySem.W.subIn K cls (.ref C) = some b) : PySem.W.exmOne K cls (.ref C) = some b := PySem.W.exm_ref h1 hdct ht h4
end Rx
namespace Rx
open PySem PySem.Spec PyProof.Rows L2 Rb
/-! ### o[a:c] = ys -/
def gSlS (to tl th : TE) : TG := fun v σ H Q => to σ H fun x H1 => tl σ H1 fun a H2 => th σ H2 fun c H3 => ∃ (l b : Addr) (xs ys : List V) (i j : Int), x = .ref l ∧ v = .ref b ∧ a = .int i ∧ c = .int j ∧ H3 l = some (.lst xs) ∧ H3 b = some (.lst ys) ∧ l ≠ b ∧ 0 ≤ i ∧ i ≤ j ∧ j ≤ xs.length ∧
  xs.length + ys.length ≤ sizeLine ∧ Upd H3 l (.lst (xs.take i.toNat ++ ys ++ xs.drop j.toNat)) fun H4 => Q σ H4
theorem pg_slset {X : Cx} {o lo hi : Expr} {to tl th : TE} {p2 pos : Pos} (ho : PE X o to) (hl : PE X lo tl) (hh : PE X hi th)
    (ha : ∀ v, assign (.Subscript o (.Slice (some lo) (some hi) none p2) pos) X.env v = (do
      let ov ← holding [v] (eval o X.env)
      let iv ← holding [v, ov] (eval (.Slice (some lo) (some hi) none p2) X.env)
      standAt pos
      holding [v, ov, iv] (setItem ov iv v)
      release [iv, v, ov] []) := by intro _; rfl) : PG X (.Subscript o (.Slice (some lo) (some hi) none p2) pos) (gSlS to tl th) := by
  refine ⟨fun pins s σ H v u Q I r h => ?_⟩
  rw [ha]
  refine wpAny_bind (wpAny_holding (thn (ho.run pins s σ H _ I h) fun ov s1 ⟨x, H1, I1, r1, q1⟩ => ?_))
  refine wpAny_bind (wpAny_holding ?_)
  refine wpAny_Slice ?_
  rw [evalPart_some]
  refine thn (hl.run pins s1 σ H1 _ I1 q1) fun vl s2 ⟨a, H2, I2, pl, q2⟩ => ?_
  rw [evalPart_some]
  refine thn (hh.run pins s2 σ H2 _ I2 q2) fun vu s3 ⟨c, H3, I3, pu, q3⟩ => ?_
  rw [evalPart_none]
  refine wpAny_pure ?_
  obtain ⟨l, b, xs, ys, i, j, rfl, rfl, rfl, rfl, hl3, hb3, ne, h0, hij, hj, hz, q⟩ := q3
  cases r
  cases r1
  have I4 : Inv X pins σ H3 { s3 with heap := s3.heap.push { cls := .type "slice", data := .fields #[vl, vu, .none] } } := I3.kept (t' := s3.toks) fun b ob q => Heap.get?_push_of_some _ q
  refine wpAny_bind (wpAny_standAt (wpAny_bind (wpAny_holding ?_)))
  refine set_slice (s := { s3 with heap := s3.heap.push { cls := .type "slice", data := .fields #[vl, vu, .none] } }) I4 hl3 hb3 ne (Heap.IsSliceOf.new ..) pl pu h0 hij hj hz fun s5 I5 => ?_
  exact wpAny_release ⟨σ, _, I5, q⟩
end Rx
namespace Rx
open PySem PySem.Spec PyProof.Rows L2 Rb
theorem Loop.rangeC {lo c : Int} {n : Nat} {g : TG} {tb : TS} {D : Ends} {σ : L2.St} {H : Hp} (Pv : Nat → L2.St → Hp → Prop) (h0 : Pv 0 σ H)
    (hs : ∀ i σ H, i < n → Pv i σ H → g (.int (lo + (i : Nat) * c)) σ H fun σ2 H2 => tb { D with nx := Pv (i + 1), ct := Pv (i + 1), bk := D.nx } σ2 H2) (hd : ∀ σ H, Pv n σ H → D.nx σ H) : Loop (Itc lo c n) g tb D σ H := for_rangeC Pv h0 hs hd
/-! heaps that keep all but some objects -/
def OffS (S : List Addr) (H H' : Hp) : Prop := ∀ b o, b ∉ S → H b = some o → H' b = some o
theorem OffS.refl {S : List Addr} {H : Hp} : OffS S H H := fun _ _ _ h => h
theorem OffS.trans {S : List Addr} {H H1 H2 : Hp} (p : OffS S H H1) (q : OffS S H1 H2) : OffS S H H2 := fun b o n h => q b o n (p b o n h)
theorem OffS.same {S : List Addr} {H H1 : Hp} (s : Same H H1) : OffS S H H1 := fun b o _ h => s b o h
theorem OffS.off {S : List Addr} {a : Addr} {H H1 : Hp} (o : Off a H H1) (h : a ∈ S) : OffS S H H1 := fun b u n e => o b u (fun z => n (z ▸ h)) e
theorem OffS.toSame {S : List Addr} {H0 H H1 : Hp} (s : Same H0 H) (o : OffS S H H1) (hn : ∀ a ∈ S, H0 a = none) : Same H0 H1 := fun b u e => o b u (fun m => by rw [hn b m] at e; cases e) (s b u e)
end Rx

set_option Elab.async false
set_option linter.all false
set_option maxRecDepth 100000
set_option maxHeartbeats 4000000
/-! texts -/
namespace Tx
open PySem PySem.Spec PyProof.Rows L2 Rb SX
def wds (ws : List (List Nat)) : List V := ws.map fun w => V.str (S w)
theorem wds_eq (ws : List (List Nat)) : (ws.map S).map V.str = wds ws := by
  rw [List.map_map]
  rfl
def rJoinS (K : PySem.W.Frag) : V → List V → Hp → VK → Prop := fun x xs H Q => ∃ (a : List Nat) (p : Addr) (ys : List (List Nat)), x = .str (S a) ∧ xs = [.ref p] ∧ (SqL K H p (wds ys) ∨ SqT K H p (wds ys)) ∧ (ys.map (·.length)).sum + ys.length * a.length ≤ 16777216 ∧ Q (.str (S (TL.joinL a ys))) H
theorem mt_joinS {X : Cx} {K : PySem.W.Frag} (h : X.K = K := by rfl) : MtR X "str.join" (rJoinS K) := by
  subst h
  intro pins s σ H x xs v us Q I rx rs q
  obtain ⟨a, p, ys, ex, es, hp, hz, q⟩ := q
  refine mt_join pins s σ H x xs v us Q I rx rs ⟨S a, p, ys.map S, ex, es, ?_, ?_, ?_⟩
  · rw [wds_eq]
    exact hp
  · rw [lens, List.length_map, S_len]
    exact hz
  · rw [join_S]
    exact q
def rSplitS : V → List V → Hp → VK → Prop := fun x xs H Q => ∃ (a b : List Nat), x = .str (S a) ∧ xs = [.str (S b)] ∧ b ≠ [] ∧ b.all (· < 256) = true ∧ a.length ≤ 100000 ∧ New H (.lst (wds (TL.spl b 0 [] a))) fun p H2 => Q (.ref p) H2
theorem mt_splitS {X : Cx} : MtR X "str.split" rSplitS := by
  intro pins s σ H x xs v us Q I rx rs q
  obtain ⟨a, b, ex, es, hb, hk, hz, q⟩ := q
  refine mt_split pins s σ H x xs v us Q I rx rs ⟨S a, S b, ex, es, ?_, ?_, ?_⟩
  · rw [S_len]
    cases b with
    | nil => exact absurd rfl hb
    | cons c r => rfl
  · rw [S_len, sizeLine_eq]
    omega
  · rw [split_S hb hk]
    intro p np
    rw [wds_eq]
    exact q p np
theorem inV_str (n : List Nat) : ∀ ws : List (List Nat), inV (.str (S n)) (wds ws) = decide (n ∈ ws)
  | [] => rfl
  | a :: r => by
    have e : inV (.str (S n)) (wds (a :: r)) = (eqV (.str (S a)) (.str (S n)) || inV (.str (S n)) (wds r)) := rfl
    rw [e, inV_str n r]
    have e2 : eqV (.str (S a)) (.str (S n)) = decide (a = n) := by
      have : eqV (.str (S a)) (.str (S n)) = decide (S a = S n) := by
        unfold eqV
        rfl
      rw [this]
      by_cases h : a = n
      · rw [decide_eq_true h, decide_eq_true (congrArg S h)]
      · rw [decide_eq_false h, decide_eq_false fun g => h (S_inj g)]
    rw [e2]
    by_cases h : a = n
    · subst h
      simp
    · simp [h, Ne.symm h]
theorem flat_wds : ∀ ws : List (List Nat), (wds ws).all flatV = true
  | [] => rfl
  | _ :: r => flat_wds r
theorem str_S (z : Str) : z = S z.cps.toList := (S_tl z).symm
theorem pe_gr {X : Cx} {x : Str} {a : Addr} {pos : Pos} (hg : Gl X x) (hm : X.mg x = some (.ref a)) (hd : (x == ("__debug__" : Str)) = false := by decide) : PE X (.Name x pos) (tC (.ref a)) := pe_glob (v := .ref a) hg hm rfl hd
theorem Loop.strL {l : List Nat} {g : TG} {tb : TS} {D : Ends} {σ : L2.St} {H : Hp} (Pv : Nat → L2.St → Hp → Prop) (h0 : Pv 0 σ H)
    (hs : ∀ i c σ H, l[i]? = some c → Pv i σ H → g (.str ⟨#[c]⟩) σ H fun σ2 H2 => tb { D with nx := Pv (i + 1), ct := Pv (i + 1), bk := D.nx } σ2 H2) (hd : ∀ σ H, Pv l.length σ H → D.nx σ H) : Loop (Its (S l)) g tb D σ H :=
  Loop.str (z := S l) Pv h0 (fun i c σ H h p => hs i c σ H (by simpa using h) p) (fun σ H p => hd σ H (by simpa using p))
theorem Cmp.pureS {l : List Nat} {j : Nat} {te : TE} {vs : List Nat} {σ : L2.St} {H1 : Hp} {Q : VK} (f : Nat → V) (hz : l.length ≤ 100000) (hw : ∀ x, wipe ((wipe σ vs).set j (some x)) vs = wipe σ vs)
    (he : ∀ c H2 (R : VK), c ∈ l → Same H1 H2 → (∀ H3, Same H2 H3 → R (f c) H3) → te ((wipe σ vs).set j (some (.str ⟨#[c]⟩))) H2 R)
    (hd : ∀ d H2, H1 d = none → Same H1 H2 → H2 d = some (.lst (l.map f)) → Q (.ref d) H2) : Cmp (Its (S l)) (gName j) tYes te vs σ H1 Q := by
  intro D nD
  refine ⟨fun i m H => m = l.length - i ∧ i ≤ l.length ∧ Same H1 H ∧ H D = some (.lst ((l.take i).map f)), ⟨l.length, rfl, Nat.zero_le _, same_new nD, upd_same⟩, ?_⟩
  rintro i m H ⟨rfl, hi, s2, h2⟩
  have hsz : (S l).cps.size = l.length := by simp
  by_cases hlt : i < l.length
  · refine .inr ⟨show i < (S l).cps.size by omega, fun H' => Same H1 H' ∧ H' D = some (.lst ((l.take (i + 1)).map f)), fun H' ⟨p1, p2⟩ => ⟨l.length - (i + 1), by omega, rfl, hlt, p1, p2⟩, fun x H' y => ?_⟩
    obtain ⟨e, c, hc, ex⟩ := y
    subst e ex
    have hx : l[i]? = some c := by simpa using hc
    refine ⟨hw _, he c _ _ (List.mem_of_getElem? hx) s2 fun H3 s3 => ?_⟩
    refine ⟨_, s3 _ _ h2, sz100l (by rw [List.length_map, List.length_take]; omega), Same.off (s2.trans s3) nD Off.upd, ?_⟩
    rw [upd_same, take_snoc hx, List.map_append]
    rfl
  · have e : i = l.length := by omega
    subst e
    rw [List.take_length] at h2
    exact .inl ⟨show (S l).cps.size ≤ l.length by omega, hd D H nD s2 h2⟩
theorem takes0F {X : Cx} : Takes X (fun _ _ _ _ => False) := takes0
end Tx

set_option Elab.async false
set_option linter.all false
set_option maxRecDepth 100000
set_option maxHeartbeats 4000000
/-! defs that are called where nothing of a repr is under way; repr -/
namespace Rg
open PySem PySem.Spec PyProof.Rows L2 Rb Rx
structure FnOkG (P : Program) (w : World) (K : PySem.W.Frag) (mg : Str → Option Value) (base : Heap) (CX : CXT) (k : Nat) (f : Addr) (fd : FuncData) (ps : List Str) (sp : Sp) : Prop where
  len : ∀ vs H Q E, sp vs H Q E → vs.length = ps.length
  run : ∀ (A : Around) (outer : List Env) (s : Shared) (H : Hp) (args : Args) (us : List Value) (vs : List V) (Q : VK) (E : XK), Room k A → A.guards = some [] → Env0 P w K mg base A outer s H → BindsTo s fd args (ps.zip us) → Vals vs us → sp vs H Q E →
    codeAny (model P w) A (.call (.ref f) args) (CR CX outer P w H s Q E) s
theorem fn_ofG {CX : CXT} {P : Program} {w : World} {K : PySem.W.Frag} {mg : Str → Option Value} {base : Heap} {k : Nat} {f : Addr} {name qual : Str} {params : Arguments} {body : List Stmt} {scope : Scope} {dV kV doc pm cdv ct oc : Value} {an od : Option Addr}
    {osl : Array (Option Value)} {N ps : List Str} {sp : Sp} (lk : K.lookup f = some ⟨oc, od, .func (PySem.W.fnOf name qual params body scope dV kV doc pm an cdv ct), osl⟩) (hcd : PySem.W.codeIn K cdv qual = true) (S : FnScope N ps scope)
    (len : ∀ vs H Q E, sp vs H Q E → vs.length = ps.length)
    (hbody : ∀ (A : Around) (outer : List Env) (s : Shared) (H : Hp) (vs : List V) (Q : VK) (E : XK), Room k (A.deeper (envOfC qual scope s.heap.objs.size f cdv)) → A.guards = some [] → sp vs H Q E →
      ∃ t, PSs (cxOf CX P w K mg base N qual scope f cdv A outer s H E) body t ∧ t { nx := fun _ H' => Q .non H', rt := Q } (start N vs) H) :
    FnOkG P w K mg base CX (k + 1) f (PySem.W.fnOf name qual params body scope dV kV doc pm an cdv ct) ps sp := by
  refine ⟨len, fun A outer s H args us vs Q E hr hA e0 hb r hsp => ?_⟩
  have hl := len _ _ _ _ hsp
  have KX : K.In s.heap := e0.mod.kin.keeps fun b o e => (e0.bs b o e).1
  have lim : s.heap.NoLimit := e0.mod.nolimit.keeps fun b o e => (e0.bs b o e).1
  have hkind : ∀ y ∈ ps.zip us, scope.names.lookup y.1 = some .local ∨ (scope.names.lookup y.1 = some .cell ∧ ((cellsFrom (s.heap.objs.size + 1) scope.names []).lookup y.1).isSome = true) := fun ⟨n, v⟩ hy => by
    rcases S.par n (List.of_mem_zip hy).1 with q | q
    · exact .inl q
    · exact .inr ⟨q, PySem.W.cellsFrom_some _ _ _ (.inl q)⟩
  refine codeAny_call_function hr.depth (KX _ _ lk) rfl S.co S.gen rfl (PySem.W.codeRec_of KX hcd) (hb _ _ _ _ ?_)
  refine wpAny_newFunctionEnv_cells S.kind hkind fun env he s1 x => ?_
  subst he
  refine ⟨lim.keeps x.toInCall.keep, codeAny_func ?_⟩
  obtain ⟨t, ht, hq⟩ := hbody A outer s H vs Q E (hr.deeper _) hA hsp
  have I : Inv (cxOf CX P w K mg base N qual scope f cdv A outer s H E) [] (start N vs) H s1 := inv_start S hr.hd e0 hl r x
  refine wpAny_mono (ht.run [] s1 (start N vs) H _ I hq) (fun fl s' hs => ?_) fun e s' hs => hs
  have fin : ∀ {σ' : L2.St} {H' : Hp} {v : V} {u : Value}, Inv (cxOf CX P w K mg base N qual scope f cdv A outer s H E) [] σ' H' s' → RelV v u → Q v H' → CE outer P w H s Q u s' :=
    fun {σ' H' v u} J rv q => ⟨v, H', J.os, J.bare, J.base, J.hok, rv, q⟩
  cases fl with
  | ret u =>
    obtain ⟨v, σ', H', J, rv, q⟩ := hs
    exact fin J rv q
  | next =>
    obtain ⟨σ', H', J, q⟩ := hs
    exact fin (v := V.non) (u := Value.none) J rfl q
  | brk =>
    obtain ⟨_, _, _, q⟩ := hs
    exact False.elim q
  | cont =>
    obtain ⟨_, _, _, q⟩ := hs
    exact False.elim q
section
variable {P : Program} {w : World} {K : PySem.W.Frag} {mg : Str → Option Value} {base : Heap}
theorem Fun_okG {x qual : Str} {st : Stmt} {f : Addr} {fd : FuncData} {N ps : List Str} {k : Nat} {sp : Sp} (F : Fun K x qual st f fd) (S : FnScope N ps (defScope st)) (len : ∀ vs H Q E, sp vs H Q E → vs.length = ps.length)
    (hbody : ∀ (cdv : Value) (A : Around) (outer : List Env) (s : Shared) (H : Hp) (vs : List V) (Q : VK) (E : XK), Room k (A.deeper (envOfC qual (defScope st) s.heap.objs.size f cdv)) → A.guards = some [] → sp vs H Q E →
      ∃ t, PSs (cxOf CX0 P w K mg base N qual (defScope st) f cdv A outer s H E).nox (defBody st) t ∧ t { nx := fun _ H' => Q .non H', rt := Q } (start N vs) H) : FnOkG P w K mg base CX0 (k + 1) f fd ps sp := by
  obtain ⟨oc, od, kV, doc, pm, an, cdv, ct, osl, rfl, lk, hcd⟩ := F.ex
  refine fn_ofG lk hcd S len fun A outer s H vs Q E hr hA hsp => ?_
  obtain ⟨t, h, q⟩ := hbody cdv A outer s H vs Q E hr hA hsp
  exact ⟨t, h.nox, q⟩
end
structure DnG (P : Program) (w : World) (K : PySem.W.Frag) (mg : Str → Option Value) (base : Heap) (CX : CXT) (k : Nat) (x : Str) (ps : List Str) (sp : Sp) : Prop where
  ex : ∃ f fd, FnOkG P w K mg base CX k f fd ps sp ∧ mg x = some (.ref f) ∧ PySem.W.keepIn K (.ref f) = true ∧ Binds K fd ps []
section
variable {X : Cx} {CX : CXT} {k : Nat} {f : Addr} {fd : FuncData} {ps : List Str} {ds : List Value} {dvs : List V} {sp : Sp} {E : XK} {x : Str} {p pos : Pos} {e : Expr} {es : List Expr} {t : TA}
theorem run_fnG {pins : List (Addr × Obj)} {σ : L2.St} {H : Hp} {s : Shared} {Q : VK} {us : List Value} {vs : List V} (F : FnOkG X.prog X.w X.K X.mg X.base CX k f fd ps sp) (hr : Room k X.A) (hA : X.A.guards = some []) (hb : Binds X.K fd ps ds) (hd : Vals dvs ds) (hx : Passes CX X E)
    (I : Inv X pins σ H s) (r : Vals vs us) (h : sp (vs ++ dvs) H Q E) : wpAny (model X.prog X.w) X.A (call (.ref f) us) (EP X pins σ Q) X.xe s := by
  have r2 : Vals (vs ++ dvs) (us ++ ds) := r.append hd
  have hl : (us ++ ds).length = ps.length := by rw [← r2.length]; exact F.len _ _ _ _ h
  refine wpAny_call (codeAny_mono (F.run X.A X.stack s H ⟨us, []⟩ (us ++ ds) (vs ++ dvs) Q E hr hA I.env0 (hb s us I.kIn hl) r2 h) fun r s' hq => ?_)
  cases r with
  | error e => exact hx pins σ H s e s' I hq
  | ok fl =>
    cases fl with
    | ret u => exact I.after hq
    | next => exact False.elim hq
    | brk => exact False.elim hq
    | cont => exact False.elim hq
theorem pe_cdG (D : DnG X.prog X.w X.K X.mg X.base CX k x ps sp) (hA : X.A.guards = some []) (hr : Room k X.A) (hg : Gl X x) (hx : Passes CX X E) (ha : PA X (e :: es) t)
    (hdb : (x == ("__debug__" : Str)) = false := by decide) (he : starEach (e :: es) X.env = (false, eval e X.env) :: starEach es X.env := by rfl) (hpl : (backTo pos (starEach es X.env)).any (·.1) = false := by rfl) :
    PE X (.Call (.Name x p) (e :: es) [] pos) (tCall sp [] E t) := by
  obtain ⟨f, fd, F, m, kp, b⟩ := D.ex
  refine ⟨fun pins s σ H Q I h => ?_⟩
  refine wpAny_Call_Name_kw (ld_glob I hg m ?_ hdb)
  refine PySem.W.callWith_K (h₀ := X.base) I.ok.mod.kin kp (thn (ha.run pos pins s σ H _ I h) fun us s1 ⟨vs, H1, I1, r, q⟩ => ⟨I1.kIn, ?_⟩) he hpl
  exact run_fnG F hr hA b .nil hx I1 r q
theorem pe_cdG0 (D : DnG X.prog X.w X.K X.mg X.base CX k x ps sp) (hA : X.A.guards = some []) (hr : Room k X.A) (hg : Gl X x) (hx : Passes CX X E)
    (hdb : (x == ("__debug__" : Str)) = false := by decide) : PE X (.Call (.Name x p) [] [] pos) (tCall sp [] E tNil) := by
  obtain ⟨f, fd, F, m, kp, b⟩ := D.ex
  refine ⟨fun pins s σ H Q I h => ?_⟩
  refine wpAny_Call_Name_kw (ld_glob I hg m ?_ hdb)
  exact PySem.W.callWith_K0 I.kIn kp (run_fnG (us := []) F hr hA b .nil hx I .nil h)
end
/-! ### the head -/
theorem law_callG {P : Program} {w : World} {K : PySem.W.Frag} {mg mb : Str → Option Value} {CX : CXT} {k : Nat} {fa a : Addr} {fd : FuncData} {x : Str} {sp : Sp} {s₁ : Shared} {vs : List Value} {ns : List Int}
    (KX : K.In s₁.heap) (hns : s₁.heap.Ns mainGlobals mg) (hb : s₁.heap.Ns builtinsNs mb) (hbb : ∀ x : Str, x ≠ "__name__" → mb x = bootBuiltins x) (hlim : s₁.heap.NoLimit) (hg : s₁.gens = #[])
    (ha : s₁.heap.get? a = some { cls := .type "list", data := .seq vs.toArray }) (hi : IntsAre vs ns) (hl : ns.length ≤ sizeLine) (hr : Room k callerA)
    (F : ∀ base : Heap, K.In base → base.Ns mainGlobals mg → FnOkG P w K mg base CX k fa fd [x] sp) (hbind : ∀ (s : Shared) (u : Value), BindsTo s fd ⟨[u], []⟩ [(x, u)])
    (hsp : ∀ H : Hp, Only H → SqL K H a (ns.map V.int) → sp [.ref a] H (fun v _ => v = .bl true) fun _ _ _ => False)
    (hCX : ∀ H e s', CX [] H s₁ (fun _ _ _ => False) e s' → False) :
    codeAny (model P w) callerA (.call (.ref fa) ⟨[.ref a], []⟩) (fun r s' => r = .ok (.ret (.bool true)) ∧ OldK s₁.heap s'.heap ∧ s'.os = s₁.os ∧ AllBare s'.gens) s₁ := by
  have rv := vals_ints hi
  have lenV := hi.length
  have core : ∀ H : Hp, Only H → SqL K H a (ns.map V.int) → HOk P w H s₁.heap → (∀ b, H b ≠ none → b = a) → (H a ≠ none → K.lookup a = none) →
      codeAny (model P w) callerA (.call (.ref fa) ⟨[.ref a], []⟩) (fun r s' => r = .ok (.ret (.bool true)) ∧ OldK s₁.heap s'.heap ∧ s'.os = s₁.os ∧ AllBare s'.gens) s₁ := by
    intro H hO hS hok hA hK
    have base_of : ∀ {b : Addr} {o : Obj}, s₁.heap.get? b = some o → H b = none → (hidT s₁.heap H).get? b = some o := fun e n => hidT_get e n
    have noA : ∀ {b : Addr} {o : Obj} {es : Array DictEntry} {ep : Nat}, s₁.heap.get? b = some o → o.data = .dict es ep → H b = none := fun {b o es ep} e d => by
      cases q : H b with
      | none => rfl
      | some u =>
        have e' : b = a := hA b (by rw [q]; simp)
        subst e'
        rw [ha] at e; cases e
        have d' : Data.seq vs.toArray _ = Data.dict es ep := d
        cases d'
    have nsK : ∀ {b : Addr} {m : Str → Option Value}, s₁.heap.Ns b m → (hidT s₁.heap H).Ns b m := fun {b m} ⟨o, es, ep, e, d, r⟩ => ⟨o, es, ep, base_of e (noA e d), d, r⟩
    have hKb : K.In (hidT s₁.heap H) := fun b o e => base_of (KX b o e) (by
      cases q : H b with
      | none => rfl
      | some u =>
        have e' : b = a := hA b (by rw [q]; simp)
        subst e'
        rw [hK (by rw [q]; simp)] at e; cases e)
    have hM : Mod K mg (hidT s₁.heap H) := ⟨hKb, nsK hns, ⟨mb, nsK hb, hbb⟩, let ⟨mc, h1, h2⟩ := hlim; ⟨mc, nsK h1, h2⟩⟩
    have e0 : Env0 P w K mg (hidT s₁.heap H) callerA [] s₁ H := ⟨rfl, hM, fun b o e => of_hidT e, Nat.le_of_eq (hidT_size _ _), trivial, fun b hb => absurd (show b ∈ ([] : List Addr) from hb) (by simp), hok, .of_eq hg⟩
    refine codeAny_mono ((F _ hKb (nsK hns)).run callerA [] s₁ H ⟨[.ref a], []⟩ [.ref a] [.ref a] _ _ hr rfl e0 (hbind s₁ (.ref a)) (.cons rfl .nil) (hsp H hO hS)) fun r s' h => ?_
    cases r with
    | error e => exact (hCX H e s' h).elim
    | ok fl =>
      cases fl with
      | next => exact False.elim h
      | brk => exact False.elim h
      | cont => exact False.elim h
      | ret u =>
        obtain ⟨v, H', os, bare, un, hok', r', q⟩ := h
        have q' : v = .bl true := q
        subst q'
        obtain rfl : u = Value.bool true := r'
        refine ⟨rfl, OldK.of_keep fun b o e => ?_, os, bare⟩
        cases q : H b with
        | none => exact un.keep b o e q (by intro z; exact absurd (show b ∈ ([] : List Addr) from z) (by simp)) (by simp)
        | some u =>
          rcases hO b with z | ⟨ob, xs, z⟩
          · rw [q] at z; cases z
          · have z2 := un.frzs b ob _ z
            obtain ⟨e1, _⟩ := hok b _ z
            obtain ⟨e2, _⟩ := hok' b _ z2
            rw [e] at e1; cases e1
            exact e2
  cases hk : K.lookup a with
  | some o =>
    have e := KX a o hk
    rw [ha] at e
    cases e
    refine core (fun _ => none) (fun _ => .inl rfl) (.inr ⟨_, vs.toArray, _, hk, rfl, rfl, rfl, by rw [List.size_toArray, lenV]; exact hl, by simpa using rv⟩) (fun b u z => by have z' : (none : Option HO) = some u := z; cases z') (fun b z => absurd rfl z) fun z => absurd rfl z
  | none =>
    refine core (fun b => if b = a then some (.frz { cls := .type "list", data := .seq vs.toArray } (.lst (ns.map V.int))) else none) (fun b => ?_) (.inl (.inr ⟨{ cls := .type "list", data := .seq vs.toArray }, if_pos rfl⟩)) (fun b u z => ?_) (fun b z => ?_) fun _ => hk
    · by_cases hb : b = a
      · exact .inr ⟨_, _, if_pos hb⟩
      · exact .inl (if_neg hb)
    · by_cases hb : b = a
      · have z' := (if_pos hb).symm.trans z
        cases z'
        subst hb
        exact ⟨ha, by rw [List.length_map]; exact hl, vs, _, rv, ha⟩
      · have z' := (if_neg hb).symm.trans z
        cases z'
    · by_cases hb : b = a
      · exact hb
      · exact absurd (if_neg hb) z
theorem walk_ofG {l : PySem.W.OpenLaw} {n k : Nat} {q : Program} {loose : List Str} {XP : (Str → Option Value) → Heap → Prop} {YP : World → Heap → Prop} {d : DefRec} {K : Params → PySem.W.Frag} {CX : World → CXT} {sp : World → Sp} {x : Str}
    (hn : l.most = some n) (hn2 : n ≤ sizeLine) (hdf : d.params.defaults = []) (hr : Room k callerA)
    (hY : ∀ (w : World) (h : Heap), YP w h → (K w.params).In h)
    (F : ∀ (w : World) (mg : Str → Option Value) (fa : Addr) (h : Heap), (K w.params).In h → h.Ns mainGlobals mg → mg d.name = some (.ref fa) →
      ∃ fd : FuncData, (∀ (s : Shared) (u : Value), BindsTo s fd ⟨[u], []⟩ [(x, u)]) ∧
        ∀ base : Heap, (K w.params).In base → base.Ns mainGlobals mg → FnOkG l.prog w (K w.params) mg base (CX w) k fa fd [x] (sp w))
    (hsp : ∀ (w : World) (H : Hp) (a : Addr) (ns : List Int), ns.length ≤ n → Only H → SqL (K w.params) H a (ns.map V.int) → sp w [.ref a] H (fun v _ => v = .bl true) fun _ _ _ => False)
    (hCX : ∀ (w : World) (H : Hp) (s : Shared) (e : Value) (s' : Shared), CX w [] H s (fun _ _ _ => False) e s' → False) :
    PySem.W.WalkO q loose XP YP l.row.toRowW d [] (fun f vs => PySem.call f vs) := by
  refine Att.attach_call hn hdf fun w s₀ s₁ mg mb fa o pm cd doc a vs ns G Y ho hd hcd hmg hobj hints hlen hg => ?_
  have KX := hY w _ Y
  obtain ⟨fd, hb, hF⟩ := F w mg fa _ KX G.T.g hmg
  exact law_callG KX G.T.g G.T.b G.T.builtins G.T.nolimit hg hobj hints (Nat.le_trans hlen hn2) hr hF hb (fun H hO hS => hsp w H a ns hlen hO hS) fun H e s' => hCX w H s₁ e s'
/-! ### repr -/
/-- things of which repr is told: data, and a flat dict -/
inductive Shw (K : PySem.W.Frag) (H : Hp) : V → PyData → Prop
  | dp {x : V} {d : PyData} (h : Dp K H x d) (n : d.hasDict = false) : Shw K H x d
  | dk {a : Addr} {kvs : List (Key × V)} (h : H a = some (.dK kvs)) (f : kvs.all (fun p => isPd p.2) = true) : Shw K H (.ref a) (.dict (kvs.map fun p => (pd (kV p.1), pd p.2)))
def rRepr (K : PySem.W.Frag) : List V → Hp → VK → Prop := fun xs H Q => ∃ x d, xs = [x] ∧ Shw K H x d ∧ d.showable = true ∧ d.depth ≤ 60 ∧ d.shown.length ≤ sizeLine ∧ Q (.str d.shown) H
theorem call_reprD {X : Cx} {pins : List (Addr × Obj)} {s : Shared} {σ : L2.St} {H : Hp} {Q : VK} {u : Value} {d : PyData} {as : List Addr} (hA : X.A.guards = some []) (hu : X.A.units + 64 < cLine) (I : Inv X pins σ H s) (r : Reads s.heap u d as) (hsm : d.hasDict = true → sysModules ∉ as)
    (hs : d.showable = true) (hd : d.depth ≤ 60) (hz : d.shown.length ≤ sizeLine) (q : Q (.str d.shown) H) : wpAny (model X.prog X.w) X.A (call (.builtin "repr") [u]) (EP X pins σ Q) X.xe s := by
  have fin : ∀ (h' : Heap) (tk : Tok) (u : Tok), (∀ b o, s.heap.get? b = some o → h'.get? b = some o) → EP X pins σ Q (.str d.shown u) { s with heap := h', toks := tk } := fun h' tk u hk =>
    ⟨.str d.shown, H, I.kept hk, ⟨u, rfl⟩, q⟩
  cases r with
  | none => exact PySem.P.repr_of_none (fin s.heap _ _ fun _ _ e => e)
  | bool b => exact PySem.P.repr_of_bool (by have := fin s.heap (s.toks + 1) s.toks fun _ _ e => e; simpa only [PyData.shown] using this)
  | int i t => exact PySem.P.repr_of_int (by simpa [PyData.showable] using hs) (by have := fin s.heap (s.toks + 1) s.toks fun _ _ e => e; simpa only [PyData.shown] using this)
  | str x t => exact PySem.P.repr_of_str (by have := fin s.heap (s.toks + 1) s.toks fun _ _ e => e; simpa only [PyData.shown] using this) (by simpa only [PyData.shown] using hz)
  | list h1 h2 h3 h4 => exact repr_of_reads' (.list h1 h2 h3 h4) hs hsm hA (by omega) (fun _ _ e => e) (fun h' u tk hk => fin h' tk u hk) hz
  | tuple h1 h2 h3 h4 => exact repr_of_reads' (.tuple h1 h2 h3 h4) hs hsm hA (by omega) (fun _ _ e => e) (fun h' u tk hk => fin h' tk u hk) hz
  | dict h1 h2 h3 h4 h5 => exact repr_of_reads' (.dict h1 h2 h3 h4 h5) hs hsm hA (by omega) (fun _ _ e => e) (fun h' u tk hk => fin h' tk u hk) hz
theorem pd_reads {h : Heap} {x : V} {u : Value} (hp : isPd x = true) (r : RelV x u) : Reads h u (pd x) [] := by
  cases x with
  | non =>
    cases r
    exact .none
  | bl b =>
    cases r
    exact .bool b
  | int i =>
    obtain ⟨t, rfl⟩ := r
    exact .int i t
  | str z =>
    obtain ⟨t, rfl⟩ := r
    exact .str z t
  | _ => cases hp
theorem kV_reads {h : Heap} {k : Key} {u : Value} (e : keyIs k u = true) : Reads h u (pd (kV k)) [] := by
  rcases keyIs_shape e with ⟨i, t, rfl, rfl⟩ | ⟨x, t, rfl, rfl⟩
  · exact .int i t
  · exact .str x t
theorem dk_reads {P : Program} {w : World} {h : Heap} : ∀ {es : List DictEntry} {vs : List (Key × Value)} {kvs : List (Key × V)}, Pairs (mixKind P w) es vs → KV kvs vs → kvs.all (fun p => isPd p.2) = true →
    ReadsAll h (es.map (·.key)) ((kvs.map fun p => (pd (kV p.1), pd p.2)).map (·.1)) [] ∧ ReadsAll h (es.map (·.val)) ((kvs.map fun p => (pd (kV p.1), pd p.2)).map (·.2)) []
  | _, _, _, .nil, .nil, _ => ⟨.nil, .nil⟩
  | _, _, _, .cons hk hv hr, .cons hp r2, hf => by
    rw [List.all_cons, Bool.and_eq_true] at hf
    obtain ⟨a, b⟩ := dk_reads hr r2 hf.2
    obtain ⟨e1, e2⟩ := hp
    refine ⟨ReadsAll.cons (as := []) (bs := []) ?_ a, ReadsAll.cons (as := []) (bs := []) ?_ b⟩
    · dsimp only
      rw [e1]
      exact kV_reads hk
    · dsimp only
      rw [hv]
      exact pd_reads hf.1 e2
theorem Shw.reads {X : Cx} {pins : List (Addr × Obj)} {s : Shared} {σ : L2.St} {H : Hp} (I : Inv X pins σ H s) {x : V} {d : PyData} {u : Value} (h : Shw X.K H x d) (r : RelV x u) : ∃ as, Reads s.heap u d as ∧ (d.hasDict = true → sysModules ∉ as) := by
  cases h with
  | dp h n =>
    obtain ⟨as, q⟩ := Dp.reads I d _ u h r
    exact ⟨as, q, PyData.noDict_hsm n⟩
  | dk h f =>
    cases r
    obtain ⟨_, hS, vs, rv, o, es, ep, e1, ex, e2, _, pr, _⟩ := I.hok _ _ h
    obtain ⟨q1, q2⟩ := dk_reads (h := s.heap) pr rv f
    refine ⟨_, Reads.dict e1 ex.1 e2 q1 q2, fun _ hm => ?_⟩
    simp only [List.append_nil, List.mem_cons, List.not_mem_nil, or_false] at hm
    rw [← hm] at hS
    exact absurd hS (by simp)
theorem call_repr {X : Cx} {K : PySem.W.Frag} (hA : X.A.guards = some []) (hu : X.A.units + 64 < cLine) (h : X.K = K := by rfl) : CallR X (.builtin "repr") (rRepr K) := by
  subst h
  intro pins s σ H xs us Q I r h
  obtain ⟨x, d, rfl, hs, h1, h2, h3, q⟩ := h
  obtain ⟨u, rfl, rx⟩ := vals1 r
  obtain ⟨as, hr, hsm⟩ := hs.reads I rx
  exact call_reprD hA hu I hr hsm h1 h2 h3 q
/-! ### x == x -/
def rEqS (K : PySem.W.Frag) : R2 := fun x y H Q => x = y ∧ (scal x x = true ∨ (∃ a xs, x = .ref a ∧ (SqL K H a xs ∨ SqT K H a xs)) ∨ ∃ a kvs, x = .ref a ∧ H a = some (.dK kvs) ∧ ∀ p ∈ kvs, valV kvs p.1 = some p.2 ∧ (flatB p.2 = true ∨ ∃ b, p.2 = .ref b)) ∧ Q (.bl true) H
theorem op_eqS {X : Cx} {K : PySem.W.Frag} (hu : X.A.units + 64 < cLine) (h : X.K = K := by rfl) : OpR X (compareOp .Eq) (rEqS K) := by
  subst h
  intro pins s σ H x y v u Q I rx ry h
  obtain ⟨rfl, h, q⟩ := h
  have fin : EP X pins σ Q (.bool true) s := ⟨.bl true, H, I, rfl, q⟩
  rcases h with h | ⟨a, xs, rfl, h⟩ | ⟨a, kvs, rfl, h, hk⟩
  · exact op_eq pins s σ H x x v u Q I rx ry ⟨h, by rw [decide_eq_true rfl]; exact q⟩
  · cases rx
    cases ry
    rcases h with h | h
    · obtain ⟨its, r', pl, hz⟩ := I.list h
      exact SeqAt.eq_listAt (e := fun _ => true) pl.isList pl.isList rfl (by omega) (fun j h1 h2 => SeqAt.EqAt.same _) (by rw [List.all_eq_true.mpr (fun _ _ => rfl)]; exact fin)
    · obtain ⟨its, r', pl, hz⟩ := I.tuple h
      exact SeqAt.eq_tupleAt (e := fun _ => true) pl pl (by omega) (fun j h1 h2 => SeqAt.EqAt.same _) (by rw [List.all_eq_true.mpr (fun _ _ => rfl), beq_self_eq_true]; exact fin)
  · refine eqR_run I (A := X.A) (F := EqV X.K H 1) (by omega) (eqV_run I 1 X.A.in1 (by show X.A.units + 1 + 1 < cLine; omega)) (.inr ⟨a, a, kvs, kvs, rfl, rfl, h, h, rfl, fun p hp => ⟨_, (hk p hp).1, ?_⟩⟩) rx ry _ _ fin
    rcases (hk p hp).2 with h | ⟨b, h⟩
    · exact .inl ⟨rfl, h⟩
    · exact .inr (.inl ⟨b, h, h⟩)
theorem op_eqVK {X : Cx} {K : PySem.W.Frag} (hu : X.A.units + 64 < cLine) (h : X.K = K := by rfl) : OpR X (compareOp .Eq) (rEqV K) := by
  subst h
  exact op_eqV hu
/-! ### o[:] = ys -/
section
variable {prog : Program} {w : World} {A : Around} {E : Value → Shared → Prop} {s : Shared}
theorem bounds_all (n : Nat) : sliceBounds none none none n = ((0 : Int), (n : Int), 1) := by
  simp only [sliceBounds, Option.getD_none]
  simp
set_option maxRecDepth 100000 in
/-- o[:] = another list: turned from the rule for a slice with both bounds -/
theorem setItem_sliceAll {l b sl : Addr} {items new : Array Value} {n n2 : Nat} {vl vu : Value} {Q : Unit → Shared → Prop}
    (e : s.heap.get? l = some { cls := .type "list", data := .seq items n }) (e2 : s.heap.get? b = some { cls := .type "list", data := .seq new n2 }) (hne : l ≠ b)
    (hs : s.heap.IsSliceOf sl vl vu .none) (pl : IsPart vl none) (pu : IsPart vu none)
    (hsz : items.size + new.size ≤ sizeLine) (h : Q () { s with heap := s.heap.update l (Obj.mapSeq fun xs => xs.extract 0 0 ++ new ++ xs.extract items.size xs.size) }) :
    wpAny (model prog w) A (setItem (.ref l) (.ref sl) (.ref b)) Q E s := by
  have hl : s.heap.IsList l items := PySem.IsL.isList e
  have hb : s.heap.IsList b new := PySem.IsL.isList e2
  obtain ⟨os, hos, hcs, hds⟩ := id hs
  have hTs : s.TypeIs (.ref sl) "slice" := ⟨os, hos, hcs⟩
  have hstep : ¬ ((rawPart none == rawInt 0) = true) := Bool.false_ne_true
  have hsame : Builtin.List.listSameRef (.ref l) (.ref b) = false := by
    unfold Builtin.List.listSameRef
    exact beq_eq_false_iff_ne.mpr hne
  have hmax : (max (0 : Int) (items.size : Int)).toNat = items.size := by omega
  have hz' : ((fun xs : Array Value => xs.extract 0 0 ++ new ++ xs.extract items.size xs.size) items).size ≤ sizeLine + 1 := by
    simp only [Array.size_append, Array.size_extract]
    omega
  unfold setItem
  try with_reducible refine wpAny_holding ?_
  first | refine wpAny_bind (wpAny_pure ?_) | skip
  refine wpAny_bind (wpAny_sequenceKey hl.typeIs (by decide) ?_)
  refine wpAny_bind (wpAny_callSpecial?_slot (name := Str.ofString "__setitem__") hl.typeIs slot_list_setitem
    (wpAny_call_entry slot_list_setitem hl.typeIs entry_list_setitem ?_ (args_list_setitem _ _ _)))
  show wpAny _ _ (Builtin.List.listSubscript? (.ref sl) >>= _) _ _ s
  refine wpAny_bind ?_
  unfold Builtin.List.listSubscript?
  refine wpAny_bind (wpAny_specialOf hTs slice_no_index ?_)
  simp only [Option.isNone_none, if_true]
  refine wpAny_pure ?_
  show wpAny _ _ (typeOf (.ref sl) >>= _) _ _ s
  refine wpAny_bind (wpAny_typeOf hTs ?_)
  first
    | rw [if_neg (by decide)]
    | refine PySem.W.KFB.if_not (by decide) ?_
  rw [listSliceParts_eq]
  refine wpAny_bind (wpAny_bind (wpAny_field hos hds (x := .none) rfl (wpAny_bind (wpAny_listPart .none ?_))))
  rw [if_neg hstep]
  refine wpAny_bind (wpAny_field hos hds (x := vl) rfl (wpAny_bind (wpAny_listPart pl ?_)))
  refine wpAny_bind (wpAny_field hos hds (x := vu) rfl (wpAny_bind (wpAny_listPart pu (wpAny_pure ?_))))
  first
    | simp only [hsame, Bool.false_eq_true, if_false]
    | refine PySem.W.KFB.if_not hsame ?_
    | (dsimp only
       rw [if_neg (by rw [hsame]; exact Bool.false_ne_true)])
  refine wpAny_bind (m := Builtin.List.listAllItems (.ref b) "must assign iterable to extended slice") ?_
  unfold Builtin.List.listAllItems
  refine wpAny_bind (wpAny_typeOf hb.typeIs ?_)
  first
    | refine PySem.W.KFB.if_so (by decide) ?_
    | rw [if_pos (by decide)]
    | simp only [beq_self_eq_true, Bool.true_or, if_true]
  unfold Builtin.List.listItems
  refine wpAny_bind (wpAny_seqItems e2 rfl (wpAny_pure ?_))
  refine wpAny_bind (wpAny_bind (wpAny_seqItems e rfl (wpAny_pure ?_)))
  refine wpAny_bind (wpAny_of_eq ((sliceIndices_raw none none none items.size (by simp)).trans (congrArg (pure : Int × Int × Int → Sem (Int × Int × Int)) (bounds_all items.size))) ?_)
  show wpAny _ _ (if ((1 : Int) == 1) = true then _ else _) _ _ s
  rw [if_pos (by decide)]
  refine wpAny_bind (wpAny_rule ?_)
  first
    | simp only [notLongL hsz, Bool.false_eq_true, if_false]
    | refine PySem.W.KFB.if_not (notLongL hsz) ?_
  first | refine wpAny_bind (wpAny_pure ?_) | skip
  show wpAny _ _ (updateSeq l (fun xs => xs.extract 0 ((0 : Int)).toNat ++ new ++ xs.extract (max (0 : Int) (items.size : Int)).toNat xs.size) >>= _) _ _ s
  rw [hmax]
  refine wpAny_bind (wpAny_updateSeq (hz := Nat.le_trans (Nat.le_add_right _ _) hsz) (_hz' := hz') e rfl ?_)
  refine wpAny_bind (wpAny_letGo ?_)
  first
    | exact wpAny_bind (wpAny_pure (wpAny_pure ⟨.none, rfl, wpAny_pure h⟩))
    | exact wpAny_pure ⟨.none, rfl, wpAny_pure h⟩
end
theorem set_all {X : Cx} {pins : List (Addr × Obj)} {s : Shared} {σ : L2.St} {H : Hp} {l b sl : Addr} {xs ys : List V} {Q : Unit → Shared → Prop} (I : Inv X pins σ H s)
    (hH : H l = some (.lst xs)) (hB : H b = some (.lst ys)) (hne : l ≠ b) (hs : s.heap.IsSliceOf sl .none .none .none)
    (hz : xs.length + ys.length ≤ sizeLine) (h : ∀ s', Inv X pins σ (upd H l (.lst ys)) s' → Q () s') :
    wpAny (model X.prog X.w) X.A (setItem (.ref l) (.ref sl) (.ref b)) Q X.xe s := by
  obtain ⟨z, its, n, r, hl, e⟩ := I.lstM hH
  obtain ⟨z2, its2, n2, r2, hl2, e2⟩ := I.lstM hB
  refine setItem_sliceAll e e2 hne hs .none .none (by rw [List.size_toArray, List.size_toArray]; omega) (h _ ?_)
  refine I.lset (its' := its2) (t' := s.toks) hH e ?_ r2 z2
  have q := splice_eq its its2 0 its.length
  rw [List.take_zero, List.nil_append, List.drop_length, List.append_nil] at q
  exact q
def gSlAll (to : TE) : TG := fun v σ H Q => to σ H fun x H1 => ∃ (l b : Addr) (xs ys : List V), x = .ref l ∧ v = .ref b ∧ H1 l = some (.lst xs) ∧ H1 b = some (.lst ys) ∧ l ≠ b ∧ xs.length + ys.length ≤ sizeLine ∧ Upd H1 l (.lst ys) fun H4 => Q σ H4
theorem pg_slall {X : Cx} {o : Expr} {to : TE} {p2 pos : Pos} (ho : PE X o to)
    (ha : ∀ v, assign (.Subscript o (.Slice none none none p2) pos) X.env v = (do
      let ov ← holding [v] (eval o X.env)
      let iv ← holding [v, ov] (eval (.Slice none none none p2) X.env)
      standAt pos
      holding [v, ov, iv] (setItem ov iv v)
      release [iv, v, ov] []) := by intro _; rfl) : PG X (.Subscript o (.Slice none none none p2) pos) (gSlAll to) := by
  refine ⟨fun pins s σ H v u Q I r h => ?_⟩
  rw [ha]
  refine wpAny_bind (wpAny_holding (thn (ho.run pins s σ H _ I h) fun ov s1 ⟨x, H1, I1, r1, q1⟩ => ?_))
  refine wpAny_bind (wpAny_holding ?_)
  refine wpAny_Slice ?_
  rw [evalPart_none]
  refine wpAny_pure (wpAny_pure (wpAny_pure ?_))
  obtain ⟨l, b, xs, ys, rfl, rfl, hl3, hb3, ne, hz, q⟩ := q1
  cases r
  cases r1
  have I4 : Inv X pins σ H1 { s1 with heap := s1.heap.push { cls := .type "slice", data := .fields #[.none, .none, .none] } } := I1.kept (t' := s1.toks) fun b ob q => Heap.get?_push_of_some _ q
  refine wpAny_bind (wpAny_standAt (wpAny_bind (wpAny_holding ?_)))
  refine set_all (s := { s1 with heap := s1.heap.push { cls := .type "slice", data := .fields #[.none, .none, .none] } }) I4 hl3 hb3 ne (Heap.IsSliceOf.new ..) hz fun s5 I5 => ?_
  exact wpAny_release ⟨σ, _, I5, q⟩
/-! ### isinstance of a caught exception with fields -/
def rIsX (K : PySem.W.Frag) (a : Addr) (cls : Value) (d : Option Addr) : List V → Hp → VK → Prop := fun xs H Q => ∃ (D dd : Addr) (c : V) (cv : Value) (fs : List (Str × V)) (b : Bool), xs = [.ref a, c] ∧ cls = .ref D ∧ ExcC K D ∧ d = some dd ∧ H dd = some (.xd fs) ∧ ClsV c cv ∧ PySem.W.kitOne K (.ref D) cv = some b ∧ Q (.bl b) H
theorem inst_of {X : Cx} {pins pn : List (Addr × Obj)} {s : Shared} {σ : L2.St} {H : Hp} {a D dd : Addr} {oe : Obj} {d : Option Addr} {fs : List (Str × V)} (hz : Zc (.ref D) (some dd) oe) (hf : ∃ vs, oe.data = .fields vs) (I : Inv (X.suite a ((a, oe) :: pn)) pins σ H s) (hd : H dd = some (.xd fs)) :
    ∃ od, PySem.W.InstAt s.heap a oe D (some od) := by
  obtain ⟨ha, _⟩ := I.pin (a, oe) (List.mem_append_left _ List.mem_cons_self)
  obtain ⟨vs, hv⟩ := hf
  have hx : ObjOk X.prog X.w H s.heap dd (.xd fs) := I.hok dd _ hd
  obtain ⟨mA, hns, hr⟩ := hx
  obtain ⟨od, ho, hl⟩ := lookIn_ns hns
  exact ⟨od, ha, hz.1, by unfold PySem.W.notCls; rw [hv] <;> rfl, by rw [hz.2]; exact ho⟩
theorem call_isX {X : Cx} {K : PySem.W.Frag} {a : Addr} {oe : Obj} {cls : Value} {d : Option Addr} {pn : List (Addr × Obj)} (hz : Zc cls d oe) (hf : ∃ vs, oe.data = .fields vs) (hK : X.K = K := by rfl) : CallR (X.suite a ((a, oe) :: pn)) (.builtin "isinstance") (rIsX K a cls d) := by
  subst hK
  intro pins s σ H xs us Q I r h
  obtain ⟨D, dd, c, cv, fs, b, rfl, rfl, C, rfl, hd, k, e, q⟩ := h
  obtain ⟨u1, u2, rfl, r1, r2⟩ := vals2 r
  cases r1
  have e2 := k.eq r2
  subst e2
  obtain ⟨od, J⟩ := inst_of (d := some dd) hz hf I hd
  obtain ⟨cd, hcd, _⟩ := PySem.W.any_some C.hd
  exact PySem.W.kia_one (PySem.W.kitx_exc (by rw [hcd]; rfl) C.hg C.hk C.hs C.ha C.hn C.ht C.hm) I.kIn J e (fun z => nomatch z) fun tk => ⟨.bl b, H, I.kept (t' := tk) fun _ _ z => z, rfl, q⟩
def rIsXT (K : PySem.W.Frag) (a : Addr) (cls : Value) (d : Option Addr) : List V → Hp → VK → Prop := fun xs H Q => ∃ (D dd tp : Addr) (cs : List V) (us : List Value) (fs : List (Str × V)) (b : Bool), xs = [.ref a, .ref tp] ∧ H tp = some (.tup cs) ∧ Paired ClsV cs us ∧ cls = .ref D ∧ ExcC K D ∧ d = some dd ∧ H dd = some (.xd fs) ∧ PySem.W.kitAny K (.ref D) us = some b ∧ Q (.bl b) H
theorem call_isXT {X : Cx} {K : PySem.W.Frag} {a : Addr} {oe : Obj} {cls : Value} {d : Option Addr} {pn : List (Addr × Obj)} (hz : Zc cls d oe) (hf : ∃ vs, oe.data = .fields vs) (hK : X.K = K := by rfl) : CallR (X.suite a ((a, oe) :: pn)) (.builtin "isinstance") (rIsXT K a cls d) := by
  subst hK
  intro pins s σ H xs us Q I r h
  obtain ⟨D, dd, tp, cs, ws, fs, b, rfl, hT, k, rfl, C, rfl, hd, e, q⟩ := h
  obtain ⟨u1, u2, rfl, r1, r2⟩ := vals2 r
  cases r1
  cases (show u2 = Value.ref tp from r2)
  obtain ⟨od, J⟩ := inst_of (d := some dd) hz hf I hd
  obtain ⟨cd, hcd, _⟩ := PySem.W.any_some C.hd
  obtain ⟨_, its, rv, o, h1, h2, n, h3⟩ := (show ObjOk X.prog X.w H s.heap tp (.tup cs) from I.hok tp _ hT)
  have e3 := ClsV.all k rv
  subst e3
  obtain ⟨oc, od', dt, sl⟩ := o
  simp only at h2 h3
  subst h2 h3
  exact PySem.W.kia_tup (PySem.W.kitx_exc (by rw [hcd]; rfl) C.hg C.hk C.hs C.ha C.hn C.ht C.hm) I.kIn J h1 e (fun z => nomatch z) fun tk => ⟨.bl b, H, I.kept (t' := tk) fun _ _ z => z, rfl, q⟩
theorem pe_gcl {X : Cx} {x : Str} {a : Addr} {pos : Pos} (hg : Gl X x) (hm : X.mg x = some (.ref a)) (hd : (x == ("__debug__" : Str)) = false := by decide) : PE X (.Name x pos) (tC (.ref a)) := pe_glob (v := .ref a) hg hm rfl hd
theorem kit_yes {K : PySem.W.Frag} {t : Value} {C : Addr} (hdct : PySem.W.hasDictIn K C = true) (ht : PySem.W.typeIn K (.ref C) = some (.type "type")) (h : PySem.W.subIn K t (.ref C) = some true) : PySem.W.kitOne K t (.ref C) = some true := by
  obtain ⟨cd, hc, _⟩ := PySem.W.any_some hdct
  have e2 : ((PySem.W.clsIn K C).isSome && PySem.W.typeIn K (.ref C) == some (.type "type")) = true := by rw [hc, ht] <;> rfl
  unfold PySem.W.kitOne
  split
  · rfl
  · show (if ((PySem.W.clsIn K C).isSome && PySem.W.typeIn K (.ref C) == some (.type "type")) = true then PySem.W.subIn K t (.ref C) else none) = some true
    rw [if_pos e2]
    exact h
theorem kit_no {K : PySem.W.Frag} {t : Value} {C : Addr} (hdct : PySem.W.hasDictIn K C = true) (ht : PySem.W.typeIn K (.ref C) = some (.type "type")) (h : PySem.W.subIn K t (.ref C) = some false) (n : (t == Value.ref C) = false) : PySem.W.kitOne K t (.ref C) = some false := by
  obtain ⟨cd, hc, _⟩ := PySem.W.any_some hdct
  have e2 : ((PySem.W.clsIn K C).isSome && PySem.W.typeIn K (.ref C) == some (.type "type")) = true := by rw [hc, ht] <;> rfl
  unfold PySem.W.kitOne
  rw [if_neg (by rw [n]; exact Bool.false_ne_true)]
  show (if ((PySem.W.clsIn K C).isSome && PySem.W.typeIn K (.ref C) == some (.type "type")) = true then PySem.W.subIn K t (.ref C) else none) = some false
  rw [if_pos e2]
  exact h
theorem kit_blt {K : PySem.W.Frag} {C : Addr} {T : String} (h : PySem.W.subIn K (.ref C) (.type T) = some true) (m : PySem.W.kitMeta T = true) : PySem.W.kitOne K (.ref C) (.type T) = some true := by
  unfold PySem.W.kitOne
  split
  · rfl
  · show (if PySem.W.kitMeta T = true then PySem.W.subIn K (.ref C) (.type T) else none) = some true
    rw [if_pos m]
    exact h
/-! ### a list and one of another length, or two empty ones -/
def rNeL (K : PySem.W.Frag) : R2 := fun x y H Q => ∃ a b xs ys, x = .ref a ∧ y = .ref b ∧ SqL K H a xs ∧ SqL K H b ys ∧ ((xs.length ≠ ys.length ∧ Q (.bl true) H) ∨ (xs = [] ∧ ys = [] ∧ Q (.bl false) H))
theorem op_neL {X : Cx} {K : PySem.W.Frag} (hu : X.A.units + 64 < cLine) (h : X.K = K := by rfl) : OpR X (compareOp .NotEq) (rNeL K) := by
  subst h
  intro pins s σ H x y v u Q I rx ry h
  obtain ⟨a, b, xs, ys, rfl, rfl, ha, hb, h⟩ := h
  cases rx
  cases ry
  obtain ⟨its, r, pl, hz⟩ := I.list ha
  obtain ⟨its2, r2, pl2, hz2⟩ := I.list hb
  rcases h with ⟨ne, q⟩ | ⟨rfl, rfl, q⟩
  · exact SeqAt.RcNeAt.lists_lengths pl.isList pl2.isList (by rw [List.size_toArray, List.size_toArray, ← r.length, ← r2.length]; simpa using ne) (by omega) _ _ _ _ ⟨.bl true, H, I, rfl, q⟩
  · cases r
    cases r2
    exact SeqAt.RcNeAt.lists (e := fun _ => true) pl.isList pl2.isList rfl (by omega) (fun j h1 h2 => absurd h1 (by simp)) _ _ _ _ ⟨.bl false, H, I, rfl, q⟩
/-! ### two lists of the very same things -/
def atom (x : V) : Bool := match x with
  | .ref _ => true
  | x => flatB x
def rNeV (K : PySem.W.Frag) : R2 := fun x y H Q => ∃ a b xs, x = .ref a ∧ y = .ref b ∧ SqL K H a xs ∧ SqL K H b xs ∧ xs.all atom = true ∧ Q (.bl false) H
theorem atom_eq {A : Around} {s : Shared} {v : V} {u u' : Value} (r : RelV v u) (r' : RelV v u') (f : atom v = true) : SeqAt.EqAt A s u u' true := by
  cases v with
  | ref a =>
    cases r
    cases r'
    exact SeqAt.EqAt.same _
  | _ => exact eqAt_same r r' f
theorem op_neV {X : Cx} {K : PySem.W.Frag} (hu : X.A.units + 64 < cLine) (h : X.K = K := by rfl) : OpR X (compareOp .NotEq) (rNeV K) := by
  subst h
  intro pins s σ H x y v u Q I rx ry h
  obtain ⟨a, b, xs, rfl, rfl, ha, hb, hx, q⟩ := h
  cases rx
  cases ry
  obtain ⟨its, r, pl, hz⟩ := I.list ha
  obtain ⟨its2, r2, pl2, hz2⟩ := I.list hb
  refine SeqAt.RcNeAt.lists (e := fun _ => true) pl.isList pl2.isList (by rw [List.size_toArray, List.size_toArray, ← r.length, ← r2.length]) (by omega) (fun j h1 h2 => ?_) _ _ _ _ (by rw [List.all_eq_true.mpr (fun _ _ => rfl)]; exact ⟨.bl false, H, I, rfl, q⟩)
  have k1 : j < its.length := by simpa using h1
  have k2 : j < its2.length := by simpa using h2
  have k : j < xs.length := by rw [r.length]; exact k1
  obtain ⟨u1, hu1, ru1⟩ := r.get (List.getElem?_eq_getElem k)
  obtain ⟨u2, hu2, ru2⟩ := r2.get (List.getElem?_eq_getElem k)
  rw [List.getElem?_eq_getElem k1] at hu1
  rw [List.getElem?_eq_getElem k2] at hu2
  have e1 : its.toArray[j] = u1 := by simpa using hu1
  have e2 : its2.toArray[j] = u2 := by simpa using hu2
  rw [e1, e2]
  exact atom_eq ru1 ru2 (List.all_eq_true.mp hx _ (List.getElem_mem k))
theorem eqV_atoms {K : PySem.W.Frag} {H : Hp} {n : Nat} : ∀ {xs : List V}, xs.all atom = true → Paired (EqV K H (n + 1)) xs xs
  | [], _ => .nil
  | x :: r, h => by
    rw [List.all_cons, Bool.and_eq_true] at h
    refine .cons ?_ (eqV_atoms h.2)
    cases x with
    | ref a => exact .inr (.inl ⟨a, rfl, rfl⟩)
    | _ => exact .inl ⟨rfl, h.1⟩
/-- two lists of the very same things are equal -/
theorem eqV_lists {K : PySem.W.Frag} {H : Hp} {a b : Addr} {xs : List V} {Q : VK} (ha : SqL K H a xs) (hb : SqL K H b xs) (hx : xs.all atom = true) (q : Q (.bl true) H) : rEqV K (.ref a) (.ref b) H Q :=
  ⟨1, by decide, .inl ⟨a, b, xs, xs, rfl, rfl, ha, hb, eqV_atoms hx⟩, q⟩
end Rg

set_option Elab.async false
set_option linter.all false
set_option maxRecDepth 100000
set_option maxHeartbeats 4000000
/-! several except clauses, with names or without: turned from HandS's ps_try_many and ps_try_as -/
namespace Rt
open PySem PySem.Spec PyProof.Rows L2 Rb Rx Rg
abbrev St := L2.St
/-- what the clauses wish of an exception of the body, one after the other -/
def wMix (K : PySem.W.Frag) (Wout : WX) (D : Ends) : List (Value × Option Nat × (Addr → Value → Option Addr → TS)) → WX
  | [] => Wout
  | (c, none, ts) :: r => fun cls d σ H => ∃ b, PySem.W.exmOne K cls c = some b ∧ (b = true → ∀ a, H a = none → ts a cls d D σ H) ∧ (b = false → wMix K Wout D r cls d σ H)
  | (c, some i, ts) :: r => fun cls d σ H => ∃ b, PySem.W.exmOne K cls c = some b ∧ (b = true → ∀ a, H a = none → ts a cls d { nx := fun σ' H' => D.nx (σ'.set i none) H', rt := D.rt, bk := fun σ' H' => D.bk (σ'.set i none) H', ct := fun σ' H' => D.ct (σ'.set i none) H' } (σ.set i (some (.ref a))) H) ∧ (b = false → wMix K Wout D r cls d σ H)
inductive HdsMix (X : Cx) : List ExceptHandler → List (Value × Option Nat × (Addr → Value → Option Addr → TS)) → Prop
  | nil : HdsMix X [] []
  | cons {x : Str} {c : Value} {ts : Addr → Value → Option Addr → TS} {b₀ : Stmt} {suite : List Stmt} {np pos' : Pos} {hds : List ExceptHandler} {l : List (Value × Option Nat × (Addr → Value → Option Addr → TS))} (hc : Names X x c)
      (hsu : ∀ (a : Addr) (oe : Obj) (cls : Value) (d : Option Addr) (pn : List (Addr × Obj)), Zc cls d oe → (∃ vs, oe.data = .fields vs) → PSs (X.suite a ((a, oe) :: pn)) (b₀ :: suite) (ts a cls d)) (r : HdsMix X hds l) :
      HdsMix X (.ExceptHandler (some (.Name x np)) none (b₀ :: suite) pos' :: hds) ((c, none, ts) :: l)
  | consAs {x n : Str} {i : Nat} {c : Value} {ts : Addr → Value → Option Addr → TS} {b₀ : Stmt} {suite : List Stmt} {np pos' : Pos} {hds : List ExceptHandler} {l : List (Value × Option Nat × (Addr → Value → Option Addr → TS))} (hN : X.N.Nodup) (hi : X.N[i]? = some n) (hln : X.env.kindOf n = some .local) (hc : Names X x c)
      (hsu : ∀ (a : Addr) (oe : Obj) (cls : Value) (d : Option Addr) (pn : List (Addr × Obj)), Zc cls d oe → (∃ vs, oe.data = .fields vs) → PSs (X.suite a ((a, oe) :: pn)) (b₀ :: suite) (ts a cls d)) (r : HdsMix X hds l) :
      HdsMix X (.ExceptHandler (some (.Name x np)) (some n) (b₀ :: suite) pos' :: hds) ((c, some i, ts) :: l)
section
variable {X : Cx} {body : List Stmt} {h₀ : ExceptHandler} {hds : List ExceptHandler} {l : List (Value × Option Nat × (Addr → Value → Option Addr → TS))} {pos : Pos} {tb : WX → TS} {Wout : WX}
theorem ps_try_mix (hs : X.stack = X.env :: X.outer) (hf : X.env.frame = some X.env.locals) (tk : Takes X Wout)
    (hb : ∀ (W : WX) (pn : List (Addr × Obj)) (xe : Value → Shared → Prop), Takes (X.tr pn xe) W → PassesOwn (model X.prog X.w) X.A X.env xe → PSs (X.tr pn xe) body (tb W))
    (hh : HdsMix X (h₀ :: hds) l) : PS X (.Try body (h₀ :: hds) [] [] pos) (fun D σ H => tb (wMix X.K Wout D l) D σ H) := by
  refine ⟨fun pins s σ H D I h => ?_⟩
  have ok := I.ok
  have hfr : X.A.frames = some (X.env :: X.outer) := by rw [ok.frames, hs]
  refine wpAny_Try_except ?_
  refine wpAny_mono ((hb (wMix X.K Wout D l) (X.pn ++ pins) (fun e s₁ => wpAny (model X.prog X.w) X.A (noteFrame e X.env) (fun _ s₂ => wpAny (model X.prog X.w) X.A (setFlight e none) (fun _ s₃ =>
    wpAny (model X.prog X.w) X.A (handleBy e X.env (h₀ :: hds)) (SP X pins D) X.xe s₃) X.xe s₂) X.xe s₁) (fun u s' xx => ?_) PassesOwn.looking).run [] s σ H D (I.toTry _) h) (fun f s1 hsp => ?_) (fun e s1 he => he)
  · -- the catch
    obtain ⟨a, B, sI, pins', σ', H', cls, d, rfl, J', nb, up, sky, na, os, ag, w⟩ := xx
    have J : Inv X pins σ' H' sI := J'.ofTry ok
    have sky' : Sky B (X.env :: X.outer) a (Zc cls d) X.env.locals s'.heap := by rw [← hs]; exact sky
    show wpAny (model X.prog X.w) X.A (noteFrame (.ref a) X.env) _ _ _
    refine Sky.land Zc.steady hfr hf sky' fun h3 fl3 up3 => ?_
    have J3 : Inv X pins σ' H' { s' with heap := h3 } := J.landed nb fl3.1 (up.trans up3) os ag
    obtain ⟨oe3, vs3, he3, hz3, hd3⟩ := fl3.there
    have notFr : ∀ {h : Heap} {o : Obj} {vs : Array Value}, h.FunFrames B (X.env :: X.outer) → h.get? a = some o → o.data = .fields vs → a ∉ frs (X.env :: X.outer) := fun {h o vs} ff e dd hm => by
      obtain ⟨_, o', e', hnf⟩ := ff.mem hm
      rw [e] at e'; cases e'
      exact hnf _ dd
    have nfr := notFr fl3.2.2.1 he3 hd3
    have nL : a ≠ X.env.locals := fun z => nfr (List.mem_filterMap.mpr ⟨X.env, List.mem_cons_self, by rw [hf, z]⟩)
    have nF : a ∉ X.fs := fun hm => by
      obtain ⟨e, he, q⟩ := List.mem_filterMap.mp hm
      exact nfr (List.mem_filterMap.mpr ⟨e, List.mem_cons_of_mem _ he, q⟩)
    have S3 := J3.suite he3 hd3 na nL nF
    have go : ∀ {hds' : List ExceptHandler} {l' : List (Value × Option Nat × (Addr → Value → Option Addr → TS))}, HdsMix X hds' l' → wMix X.K Wout D l' cls d σ' H' →
        wpAny (model X.prog X.w) X.A (handleBy (.ref a) X.env hds') (SP X pins D) X.xe { s' with heap := h3 } := by
      intro hds' l' hk
      induction hk with
      | nil =>
        intro w
        refine wpAny_handleBy_nil ?_
        obtain ⟨k1, k2, k3, oe, vs, T, oT, ts', he, hz, hd, h1, hr⟩ := id fl3
        unfold PySem.passOn
        refine wpAny_bind (wpAny_field he hd h1 ?_)
        rw [if_neg (show ¬ ((Value.ref T == Value.none) = true) from by simp)]
        have fin : wpAny (model X.prog X.w) X.A (setFlight (.ref a) X.env.frame) (fun _ s4 => wpAny (model X.prog X.w) X.A (throw (.ref a) : Sem Flow) (SP X pins D) X.xe s4) X.xe { s' with heap := h3 } := by
          rw [hf]
          refine HandSPX.setFlight_upZ fl3 fun h4 hh4 up4 => wpAny_throw (tk _ _ ?_)
          exact ⟨a, B, sI, pins, σ', H', cls, d, rfl, J, nb, (up.trans up3).trans up4, .inr (.inr (by rw [hs]; exact hh4)), na, os, ag, w⟩
        first
          | exact wpAny_bind (wpAny_pure (wpAny_bind fin))
          | exact wpAny_bind fin
      | @cons x c ts b₀ suite np pos' hds2 l2 hc hsu r ih =>
        intro w
        obtain ⟨b, hb1, hyes, hno⟩ := w
        refine wpAny_handleBy_cons (codeAny_handlers_test ?_) (by intro q; cases q)
        have LT : PySem.W.Looks (model X.prog X.w) h3 (typeOf (.ref a)) cls := fun A Q E s k q => wpAny_typeOf_ref (k _ _ he3) (by rw [hz3.1]; exact q)
        have LM := PySem.W.exm_one (M := model X.prog X.w) (J3.kIn) LT hb1
        have test : ∀ {Q : Value → Shared → Prop} {E : Value → Shared → Prop}, Q c { s' with heap := h3 } → wpAny (model X.prog X.w) (X.A.mark (some (.ref a))) (eval (.Name x np) X.env) Q E { s' with heap := h3 } := fun {Q E} q => by
          obtain ⟨hg, hdbg, hm | ⟨hm, hv, hnn⟩⟩ := hc
          · exact ld_glob (X := X.suite a ((a, oe3) :: (X.pn ++ pins))) S3 hg hm q hdbg
          · exact ld_blt (X := X.suite a ((a, oe3) :: (X.pn ++ pins))) S3 hg hm hv q hnn hdbg
        refine test (LM.here ?_)
        cases b with
        | true =>
          refine codeAny_handlers_suite ?_
          refine HandSPX.lands_againZ fl3 fun h4 fl4 up4 => ?_
          have J4 : Inv X pins σ' H' { s' with heap := h4 } := J.landed nb fl4.1 ((up.trans up3).trans up4) os ag
          obtain ⟨oe4, vs4, he4, hz4, hd4⟩ := fl4.there
          have S4 := J4.suite he4 hd4 na nL nF
          refine wpAny_mono ((hsu a oe4 cls d (X.pn ++ pins) hz4 ⟨_, hd4⟩).run [] _ _ H' _ S4 (hyes rfl a na)) (fun f s6 hsp => ?_) (fun _ _ z => False.elim z)
          cases f with
          | next =>
            obtain ⟨σ6, H6, S6, q6⟩ := hsp
            exact ⟨_, _, S6.unsuite ok, q6⟩
          | brk =>
            obtain ⟨σ6, H6, S6, q6⟩ := hsp
            exact ⟨_, _, S6.unsuite ok, q6⟩
          | cont =>
            obtain ⟨σ6, H6, S6, q6⟩ := hsp
            exact ⟨_, _, S6.unsuite ok, q6⟩
          | ret u =>
            obtain ⟨v6, σ6, H6, S6, r6, q6⟩ := hsp
            exact ⟨_, _, _, S6.unsuite ok, r6, q6⟩
        | false =>
          show wpAny _ X.A (handleBy (.ref a) X.env hds2) _ _ _
          exact ih (hno rfl)
      | @consAs x n i c ts b₀ suite np pos' hds2 l2 hN hi hln hc hsu r ih =>
        intro w
        obtain ⟨b, hb1, hyes, hno⟩ := w
        refine wpAny_handleBy_cons (codeAny_handlers_test ?_) (by intro q; cases q)
        have LT : PySem.W.Looks (model X.prog X.w) h3 (typeOf (.ref a)) cls := fun A Q E s k q => wpAny_typeOf_ref (k _ _ he3) (by rw [hz3.1]; exact q)
        have LM := PySem.W.exm_one (M := model X.prog X.w) (J3.kIn) LT hb1
        have test : ∀ {Q : Value → Shared → Prop} {E : Value → Shared → Prop}, Q c { s' with heap := h3 } → wpAny (model X.prog X.w) (X.A.mark (some (.ref a))) (eval (.Name x np) X.env) Q E { s' with heap := h3 } := fun {Q E} q => by
          obtain ⟨hg, hdbg, hm | ⟨hm, hv, hnn⟩⟩ := hc
          · exact ld_glob (X := X.suite a ((a, oe3) :: (X.pn ++ pins))) S3 hg hm q hdbg
          · exact ld_blt (X := X.suite a ((a, oe3) :: (X.pn ++ pins))) S3 hg hm hv q hnn hdbg
        refine test (LM.here ?_)
        cases b with
        | true =>
          refine codeAny_handlers_suite_as ?_
          refine HandSPX.lands_againZ fl3 fun h4 fl4 up4 => ?_
          have J4 : Inv X pins σ' H' { s' with heap := h4 } := J.landed nb fl4.1 ((up.trans up3).trans up4) os ag
          obtain ⟨oe4, vs4, he4, hz4, hd4⟩ := fl4.there
          have S4 := J4.suite he4 hd4 na nL nF
          refine store_ok (X := X.suite a ((a, oe4) :: (X.pn ++ pins))) (v := .ref a) S4 hN hi (.inl hln) rfl (fun s5 S5 => ?_) (.inr hln)
          refine wpAny_mono ((hsu a oe4 cls d (X.pn ++ pins) hz4 ⟨_, hd4⟩).run [] s5 _ H' _ S5 (hyes rfl a na)) (fun f s6 hsp => ?_) (fun _ _ z => False.elim z)
          have end_ : ∀ {σ6 : St} {H6 : Hp} {Q : Shared → Prop}, Inv (X.suite a ((a, oe4) :: (X.pn ++ pins))) [] σ6 H6 s6 → (∀ s7, Inv X pins (σ6.set i none) H6 s7 → Q s7) →
              wpAny (model X.prog X.w) X.A (do bindName X.env n .none; unbindBehindTheSuite X.env n pos') (fun _ s7 => Q s7) X.xe s6 := fun {σ6 H6 Q} S6 hq => gone_ok (S6.unsuite ok) hN hi hln hq
          cases f with
          | next =>
            obtain ⟨σ6, H6, S6, q6⟩ := hsp
            exact end_ S6 fun s7 J7 => ⟨_, _, J7, q6⟩
          | brk =>
            obtain ⟨σ6, H6, S6, q6⟩ := hsp
            exact end_ S6 fun s7 J7 => ⟨_, _, J7, q6⟩
          | cont =>
            obtain ⟨σ6, H6, S6, q6⟩ := hsp
            exact end_ S6 fun s7 J7 => ⟨_, _, J7, q6⟩
          | ret u =>
            obtain ⟨v6, σ6, H6, S6, r6, q6⟩ := hsp
            exact end_ S6 fun s7 J7 => ⟨_, _, _, J7, r6, q6⟩
        | false =>
          show wpAny _ X.A (handleBy (.ref a) X.env hds2) _ _ _
          exact ih (hno rfl)
    exact go hh w
  · cases f with
    | next =>
      obtain ⟨σ', H', J', q⟩ := hsp
      exact wpAny_execs_nil ⟨σ', H', J'.ofTry ok, q⟩
    | brk =>
      obtain ⟨σ', H', J', q⟩ := hsp
      exact ⟨σ', H', J'.ofTry ok, q⟩
    | cont =>
      obtain ⟨σ', H', J', q⟩ := hsp
      exact ⟨σ', H', J'.ofTry ok, q⟩
    | ret u =>
      obtain ⟨v, σ', H', J', r, q⟩ := hsp
      exact ⟨v, σ', H', J'.ofTry ok, r, q⟩
end
end Rt

set_option Elab.async false
set_option linter.all false
set_option maxRecDepth 100000
set_option maxHeartbeats 4000000
/-! for shapes: == by lengths, not in a tuple of data, max of a list, a method of one of several classes, list(d.values()) -/
namespace Rs
open PySem PySem.Spec PyProof.Rows L2 Rb Rx Rg
def rEqL (K : PySem.W.Frag) : R2 := fun x y H Q => ∃ a b xs ys, x = .ref a ∧ y = .ref b ∧ SqL K H a xs ∧ SqL K H b ys ∧ ((xs.length ≠ ys.length ∧ Q (.bl false) H) ∨ (xs = [] ∧ ys = [] ∧ Q (.bl true) H))
theorem op_eqL {X : Cx} {K : PySem.W.Frag} (hu : X.A.units + 64 < cLine) (h : X.K = K := by rfl) : OpR X (compareOp .Eq) (rEqL K) := by
  subst h
  intro pins s σ H x y v u Q I rx ry h
  obtain ⟨a, b, xs, ys, rfl, rfl, ha, hb, h⟩ := h
  cases rx
  cases ry
  obtain ⟨its, r, pl, hz⟩ := I.list ha
  obtain ⟨its2, r2, pl2, hz2⟩ := I.list hb
  rcases h with ⟨ne, q⟩ | ⟨rfl, rfl, q⟩
  · exact SeqAt.RcAt.lists_lengths pl.isList pl2.isList (by rw [List.size_toArray, List.size_toArray, ← r.length, ← r2.length]; simpa using ne) (by omega) _ _ _ _ ⟨.bl false, H, I, rfl, q⟩
  · cases r
    cases r2
    exact SeqAt.RcAt.lists (e := fun _ => true) pl.isList pl2.isList rfl (by omega) (fun j h1 h2 => absurd h1 (by simp)) _ _ _ _ ⟨.bl true, H, I, rfl, q⟩
def rNotInT (K : PySem.W.Frag) : R2 := fun x y H Q => ∃ d ds, Dp K H x d ∧ Dp K H y (.tuple ds) ∧ SeqAt.shaped d = true ∧ SeqAt.shaped (.tuple ds) = true ∧ Q (.bl (!ds.any fun z => PyData.eqv z d)) H
theorem op_notInT {X : Cx} {K : PySem.W.Frag} (hu : X.A.units + 65 < cLine) (h : X.K = K := by rfl) : OpR X (compareOp .NotIn) (rNotInT K) := by
  subst h
  intro pins s σ H x y v u Q I rx ry h
  obtain ⟨d, ds, hd, he, sd, se, q⟩ := h
  obtain ⟨as, r1⟩ := Dp.reads I d x v hd rx
  obtain ⟨bs, r2⟩ := Dp.reads I (.tuple ds) y u he ry
  exact SeqAt.notIn_tuple_reads r2 r1 (SeqAt.canLay_of_shaped se) (SeqAt.canLay_of_shaped sd) (room_in_shaped sd hu) ⟨.bl _, H, I, rfl, q⟩
theorem cr_maxK {X : Cx} {K : PySem.W.Frag} (hc : X.calm = true) (h : X.K = K := by rfl) : CallR X (.builtin "max") (rMax K) := by subst h; exact cr_max hc
theorem room65 {A : Around} {k : Nat} (hr : Room k A) : A.units + 65 < cLine := by
  have := hr.un
  omega
def rMulS : R2 := fun x y H Q => ∃ (z : Str) (k : Int), x = .str z ∧ y = .int k ∧ ((k = 0 ∧ Q (.str Str.empty) H) ∨ (k = 1 ∧ Q (.str z) H))
theorem op_mulS {X : Cx} : OpR X (binaryOp .Mult) rMulS := by
  intro pins s σ H x y v u Q I rx ry h
  obtain ⟨z, k, rfl, rfl, h⟩ := h
  obtain ⟨t, rfl⟩ := rx
  obtain ⟨t', rfl⟩ := ry
  rcases h with ⟨rfl, q⟩ | ⟨rfl, q⟩
  · exact P.mul_str_none (by decide) (by decide) ⟨.str Str.empty, H, I.tok _, ⟨_, rfl⟩, q⟩
  · refine P.mul_str (by decide) (fun _ e => by simp at e) (fun _ e => by simp at e) ?_
    rw [if_neg (by decide), if_pos (by simp)]
    exact ⟨.str z, H, I, ⟨_, rfl⟩, q⟩
theorem pg_tupK {X : Cx} {K : PySem.W.Frag} {es : List Expr} {k : Nat} {pos : Pos} {t : TGs} {n : Nat} (hc : X.calm = true) (h : PGs X es t)
    (hn : (assignEach es X.env).length = n := by rfl) (hst : (assignEach es X.env).findIdx? (·.1) = none := by rfl) (hK : X.K = K := by rfl) : PG X (.Tuple es k pos) (gTup K n t) := by subst hK; exact pg_tup hc h hn hst
/-- a comprehension whose elements change nothing old: one thing for each of ds -/
theorem Cmp.pureD {α : Type} {K : PySem.W.Frag} {a : Addr} {xs : List V} {g : TG} {te : TE} {vs : List Nat} {σ : L2.St} {H1 : Hp} {Q : VK} (ds : List α) (f : α → V) (hS : SqL K H1 a xs) (hl : xs.length = ds.length) (hz : xs.length ≤ 100000)
    (he : ∀ (i : Nat) (x : V) (d : α) (H2 : Hp) (R : VK), xs[i]? = some x → ds[i]? = some d → Same H1 H2 → (∀ H3, Same H2 H3 → R (f d) H3) → g x (wipe σ vs) H2 fun σ2 H3 => wipe σ2 vs = wipe σ vs ∧ te σ2 H3 R)
    (hd : ∀ l H2, H1 l = none → Same H1 H2 → H2 l = some (.lst (ds.map f)) → Q (.ref l) H2) : Cmp (Itl K a) g tYes te vs σ H1 Q := by
  refine Cmp.list (xs := xs) (fun D i acc H => H1 D = none ∧ Same H1 H ∧ H D = some (.lst acc) ∧ acc = (ds.take i).map f) (fun D H2 nD s2 h2 => ⟨nD, s2, h2, by simp⟩) (fun D i acc H _ ⟨_, s2, _⟩ => s2.seq hS) ?_ ?_
  · rintro D i x acc H Nx hx ha ⟨nD, s2, h2, ea⟩ hN
    have hi : i < xs.length := (List.getElem?_eq_some_iff.mp hx).1
    have hdi : ds[i]? = some ds[i] := List.getElem?_eq_getElem (by omega)
    refine he i x _ H _ hx hdi s2 fun H3 s3 => ?_
    refine push hN ha (s3 _ _ h2) (by omega) fun H5 o5 h5 => ⟨nD, Same.off (s2.trans s3) nD o5, h5, ?_⟩
    rw [ea, take_snoc hdi, List.map_append]
    rfl
  · rintro D acc H _ ⟨nD, s2, h2, ea⟩
    rw [hl, List.take_length] at ea
    exact hd D H nD s2 (ea ▸ h2)
/-- the same over a tuple -/
theorem Cmp.pureDT {α : Type} {K : PySem.W.Frag} {a : Addr} {xs : List V} {g : TG} {te : TE} {vs : List Nat} {σ : L2.St} {H1 : Hp} {Q : VK} (ds : List α) (f : α → V) (hS : SqT K H1 a xs) (hl : xs.length = ds.length) (hz : xs.length ≤ 100000)
    (he : ∀ (i : Nat) (x : V) (d : α) (H2 : Hp) (R : VK), xs[i]? = some x → ds[i]? = some d → Same H1 H2 → (∀ H3, Same H2 H3 → R (f d) H3) → g x (wipe σ vs) H2 fun σ2 H3 => wipe σ2 vs = wipe σ vs ∧ te σ2 H3 R)
    (hd : ∀ l H2, H1 l = none → Same H1 H2 → H2 l = some (.lst (ds.map f)) → Q (.ref l) H2) : Cmp (Itt K a) g tYes te vs σ H1 Q := by
  refine Cmp.tup (xs := xs) (fun D i acc H => H1 D = none ∧ Same H1 H ∧ H D = some (.lst acc) ∧ acc = (ds.take i).map f) (fun D H2 nD s2 h2 => ⟨nD, s2, h2, by simp⟩) (fun D i acc H _ ⟨_, s2, _⟩ => Same.seqT s2 hS) ?_ ?_
  · rintro D i x acc H Nx hx ha ⟨nD, s2, h2, ea⟩ hN
    have hi : i < xs.length := (List.getElem?_eq_some_iff.mp hx).1
    have hdi : ds[i]? = some ds[i] := List.getElem?_eq_getElem (by omega)
    refine he i x _ H _ hx hdi s2 fun H3 s3 => ?_
    refine push hN ha (s3 _ _ h2) (by omega) fun H5 o5 h5 => ⟨nD, Same.off (s2.trans s3) nD o5, h5, ?_⟩
    rw [ea, take_snoc hdi, List.map_append]
    rfl
  · rintro D acc H _ ⟨nD, s2, h2, ea⟩
    rw [hl, List.take_length] at ea
    exact hd D H nD s2 (ea ▸ h2)
/-- one of two or more, by its number -/
theorem two_at {K : PySem.W.Frag} {H : Hp} {b : Addr} {x y : V} {i j : Nat} {σ : L2.St} {R : L2.St → Hp → Prop} (h : H b = some (.tup [x, y])) (q : R ((σ.set i (some x)).set j (some y)) H) : gTup K 2 (gCons (gName i) (gCons (gName j) gNil)) (.ref b) σ H R :=
  ⟨b, [x, y], rfl, seqT_of h, rfl, x, [y], rfl, y, [], rfl, rfl, q⟩
/-! ### a method, found by the object's class -/
inductive NnV (P : Program) (w : World) (K : PySem.W.Frag) (mg : Str → Option Value) (base : Heap) (CX : CXT) (k : Nat) (m : Str) (ps : List Str) : List (Addr × Sp) → Prop
  | nil : NnV P w K mg base CX k m ps []
  | cons {C : Addr} {sp : Sp} {os : List (Addr × Sp)} (N : Nn P w K mg base CX k C m ps sp) (r : NnV P w K mg base CX k m ps os) : NnV P w K mg base CX k m ps ((C, sp) :: os)
theorem NnV.get {P : Program} {w : World} {K : PySem.W.Frag} {mg : Str → Option Value} {base : Heap} {CX : CXT} {k : Nat} {m : Str} {ps : List Str} : ∀ {os : List (Addr × Sp)} {C : Addr} {sp : Sp}, NnV P w K mg base CX k m ps os → (C, sp) ∈ os → Nn P w K mg base CX k C m ps sp
  | _, _, _, .cons N r, h => by
    rcases List.mem_cons.mp h with e | h
    · cases e
      exact N
    · exact r.get h
def tMethV (os : List (Addr × Sp)) (m : Str) (E : XK) (ta : TE) (t : TA) : TE := fun σ H Q => ta σ H fun x H1 => ∃ a C dx fs sp, x = .ref a ∧ H1 a = some (.ins C dx fs) ∧ fs.lookup m = none ∧ (C, sp) ∈ os ∧ t σ H1 fun vs H2 => sp (x :: vs) H2 Q E
section
variable {X : Cx} {CX : CXT} {k : Nat} {ps : List Str} {E : XK} {m : Str} {pos apos : Pos} {e o : Expr} {es : List Expr} {t : TA} {ta : TE} {os : List (Addr × Sp)}
theorem pe_mdV {pl : Sem Bool} (he : PE X o ta) (N : NnV X.prog X.w X.K X.mg X.base CX k m ps os) (hr : Room k X.A) (hx : Passes CX X E) (ha : PA X (e :: es) t)
    (hst : starEach (e :: es) X.env = (false, eval e X.env) :: starEach es X.env := by rfl) (hpl : (backTo pos (starEach es X.env)).any (·.1) = false := by rfl)
    (ht : eval (.Call (.Attribute o m apos) (e :: es) [] pos) X.env = (do
      let ov ← eval o X.env
      standAt apos.atName
      let (f, first) ← holding [ov] (getMethod ov m pl)
      callWith pos f first (backTo pos (starEach (e :: es) X.env)) (backToKw pos (keywordEach [] X.env))) := by rfl) : PE X (.Call (.Attribute o m apos) (e :: es) [] pos) (tMethV os m E ta t) := by
  refine ⟨fun pins s σ H Q I h => ?_⟩
  refine PySem.W.methodCall_KW (pl := pl) (thn (he.run pins s σ H _ I h) fun u s1 ⟨x, H1, I1, rx, a, C, dx, fs, sp, ex, ea, l, hm, q⟩ => ?_) ht
  subst ex
  obtain rfl : u = Value.ref a := rx
  have n := N.get hm
  obtain ⟨f, fd, hm, F, b⟩ := n.ex
  refine getmeth_ok I1 ea n.cl hm l ?_
  refine PySem.W.callWith_K (first := [.ref a]) (h₀ := X.base) I.ok.mod.kin hm.kp (thn (ha.run pos pins s1 σ H1 _ I1 q) fun us s2 ⟨vs, H2, I2, r, q2⟩ => ⟨I2.kIn, ?_⟩) hst hpl
  exact run_fn (us := .ref a :: us) (vs := .ref a :: vs) F hr b .nil hx I2 (.cons rfl r) (by rw [List.append_nil]; exact q2)
theorem pe_mdV0 {pl : Sem Bool} (he : PE X o ta) (N : NnV X.prog X.w X.K X.mg X.base CX k m ps os) (hr : Room k X.A) (hx : Passes CX X E)
    (ht : eval (.Call (.Attribute o m apos) [] [] pos) X.env = (do
      let ov ← eval o X.env
      standAt apos.atName
      let (f, first) ← holding [ov] (getMethod ov m pl)
      callWith pos f first (backTo pos (starEach [] X.env)) (backToKw pos (keywordEach [] X.env))) := by rfl) : PE X (.Call (.Attribute o m apos) [] [] pos) (tMethV os m E ta tNil) := by
  refine ⟨fun pins s σ H Q I h => ?_⟩
  refine PySem.W.methodCall_KW (pl := pl) (thn (he.run pins s σ H _ I h) fun u s1 ⟨x, H1, I1, rx, a, C, dx, fs, sp, ex, ea, l, hm, q⟩ => ?_) ht
  subst ex
  obtain rfl : u = Value.ref a := rx
  have n := N.get hm
  obtain ⟨f, fd, hm, F, b⟩ := n.ex
  refine getmeth_ok I1 ea n.cl hm l ?_
  exact PySem.W.callWith_K0 (first := [.ref a]) I1.kIn hm.kp (run_fn (us := [.ref a]) (vs := [.ref a]) F hr b .nil hx I1 (.cons rfl .nil) q)
end
/-! ### list(d.values()) -/
def tListVals (td : TE) : TE := fun σ H Q => td σ H fun x H1 => ∃ a kvs, x = V.ref a ∧ H1 a = some (.dK kvs) ∧ New H1 (.lst (kvs.map (·.2))) fun p H2 => Q (.ref p) H2
theorem pe_listVals {X : Cx} {o : Expr} {p pos apos mpos : Pos} {td : TE} (hc : X.calm = true) (hg : Gl X "list") (hm : X.mg "list" = none) (hd : PE X o td) (hbase : attributeBase o "values" X.env (eval o X.env) = eval o X.env := by rfl) (hline : (apos.endLine == mpos.line) = true := by rfl)
    (na : starEach [Expr.Call (.Attribute o "values" apos) [] [] mpos] X.env = (false, eval (Expr.Call (.Attribute o "values" apos) [] [] mpos) X.env) :: starEach [] X.env := by rfl) :
    PE X (.Call (.Name "list" p) [.Call (.Attribute o "values" apos) [] [] mpos] [] pos) (tListVals td) := by
  refine ⟨fun pins s σ H Q I h => ?_⟩
  refine Call_ (ld_blt I hg hm boot_list (PyProof.Rows.callWith_type1 (PyProof.Rows.args_cons (wpAny_Call_method0_late hbase hline (thn (hd.run pins s σ H _ I h) fun v s1 ⟨x, H1, I1, r1, a, kvs, ex, ha, q⟩ => ?_)) na) na rfl))
  subst ex
  obtain rfl : v = Value.ref a := r1
  obtain ⟨hz, hsys, vs, rel, dof⟩ := dk_of I1.hok ha
  obtain ⟨ep, dat⟩ := dof.dictAt
  have dat' := dat
  obtain ⟨ob, es, ho, ex, hdat, hko, hpr, hnd⟩ := dat'
  refine ⟨"dict", "dict.values", F.plainAttrs_dict, F.slot_dict_values, F.type_dict_values, ⟨ob, ho, ex.1⟩, fun b e => ?_, Calls.callWith_builtin rfl (PySem.evalArgs_none ?_)⟩
  · cases e
    exact ⟨ob, ho, ex.2.1⟩
  refine call_meetsIn F.slot_dict_values ⟨ob, ho, ex.1⟩ F.entry_dict_values (F.args_dict_values_1 _) (meets_dict_values (mixKind X.prog X.w) a hsys) ⟨⟨vs, dof⟩, ?_⟩
  refine PyProof.Rows.args_nil ?_
  have k1 : ∀ b u, s1.heap.get? b = some u → (s1.heap.push { cls := .type "dict_values", data := .fields #[.ref a] }).get? b = some u := fun b u e => Heap.get?_push_of_some _ e
  have dat1 : (s1.heap.push { cls := .type "dict_values", data := .fields #[.ref a] }).DictAt (mixKind X.prog X.w) a vs ep := dat.keep k1
  have I2 : Inv X pins σ H1 { s1 with heap := s1.heap.push { cls := .type "dict_values", data := .fields #[.ref a] } } := I1.kept (t' := s1.toks) k1
  refine PySem.W.kdl_call (PySem.W.kdl_values (knd := mixKind X.prog X.w) (kvs := vs) (ep := ep)) (I.ok.hd hc) ⟨⟨_, Heap.get?_push_size _ rfl, rfl, rfl⟩, dat1⟩ (by rw [← rel.length]; exact hz) fun h' tk acc c' hk hD hacc => ?_
  have hv : Vals (kvs.map (·.2)) acc.toList := vals_of_at (by have e1 : kvs.length = vs.length := rel.length; have e2 : acc.size = vs.length := hacc.1; simpa using e1.trans e2.symm) fun j x u hx hu => by
    obtain ⟨k, hk⟩ := hacc.2 j u (by rw [← Array.getElem?_toList]; exact hu)
    obtain ⟨y, h1, h2⟩ := KV.at' rel hk
    rw [List.getElem?_map, h1] at hx
    cases hx
    exact h2
  exact ⟨.ref _, upd H1 _ (.lst (kvs.map (·.2))), I2.laid (t' := tk) hk (Nat.le_refl _) (show ObjOk X.prog X.w _ _ _ (.lst (kvs.map (·.2))) from ⟨by rw [List.length_map]; exact hz, acc.toList, c', hv, by rw [Array.toArray_toList]; exact hD⟩), rfl, q _ (I2.hok.fresh (Nat.le_refl _))⟩
end Rs

set_option Elab.async false
set_option linter.all false
set_option maxRecDepth 100000
set_option maxHeartbeats 4000000
/-! for leaves: tuple + tuple with an empty one, enumerate(tuple), == of nested data -/
namespace Ru
open PySem PySem.Spec PyProof.Rows L2 Rb Rx Rg Rs
/-! ### tuple + tuple -/
def rCatU (K : PySem.W.Frag) : R2 := fun x y H Q => ∃ a b xs ys, x = .ref a ∧ y = .ref b ∧ SqT K H a xs ∧ SqT K H b ys ∧ xs.length + ys.length ≤ sizeLine ∧ ∀ p H2, Same H H2 → SqT K H2 p (xs ++ ys) → Q (.ref p) H2
theorem op_catU {X : Cx} {K : PySem.W.Frag} (h : X.K = K := by rfl) : OpR X (binaryOp .Add) (rCatU K) := by
  subst h
  intro pins s σ H x y v u Q I rx ry h
  obtain ⟨a, b, xs, ys, rfl, rfl, ha, hb, hz, q⟩ := h
  refine op_catA pins s σ H _ _ v u Q I rx ry ⟨a, b, xs, ys, rfl, rfl, ha, hb, hz, fun e => q _ _ (Same.refl H) (by subst e; exact hb), fun _ e => q _ _ (Same.refl H) (by subst e; rw [List.append_nil]; exact ha), fun _ _ => ?_⟩
  exact New.intro (R := fun p H2 => Q (.ref p) H2) fun p H2 n s g => q p H2 s (seqT_of g)
/-! ### enumerate(tuple) -/
def ItE (K : PySem.W.Frag) (a : Addr) : It :=
  ⟨fun i H => ∃ (xs : List V) (x : V), SqT K H a xs ∧ xs[i]? = some x, fun i H v H' => ∃ T x, v = .ref T ∧ H T = none ∧ H' = upd H T (.tup [.int (i : Nat), x]) ∧ ∀ xs, SqT K H a xs → xs[i]? = some x, fun i H => ∃ xs : List V, SqT K H a xs ∧ xs.length ≤ i⟩
theorem meets_enumB {v : Value} {o : Obj} {H : Heap → Prop} (B : Begins v o H) :
    Meets (Builtin.«enumerate.__new__» ⟨[.type "enumerate", v], []⟩) (fun _ R s => H s.heap ∧
      R (.ok (.ret (.ref (s.heap.push o).objs.size))) { s with heap := (s.heap.push o).push { cls := .type "enumerate", data := .fields #[.none, .bool false, .ref s.heap.objs.size, rawInt 0, .none, .none] } }) :=
  .of_wp fun prog w A R s h => by
    obtain ⟨hp, g, d, tk, os⟩ := s; obtain ⟨h1, h⟩ := h
    have hsub := sub_enumerate
    have q1 : ∀ {A' : Around} {E : Value → Shared → Prop} {Q : Value → Shared → Prop}, Q (.ref hp.objs.size) ⟨hp.push o, g, d, tk, os⟩ → wpAny (model prog w) A' (pyIter v) Q E ⟨hp, g, d, tk, os⟩ :=
      fun q => B.iter prog w _ _ ⟨hp, g, d, tk, os⟩ _ h1 q
    wp_walk using q1
    refine wpAny_stack_any fun st => wpAny_pure ?_
    split
    · rename_i c _ _ _ _ _
      cases (c == Value.type "enumerate")
      · wp_walk using q1
        exact ⟨_, rfl, h⟩
      · wp_walk using q1
        exact ⟨_, rfl, h⟩
    · wp_walk using q1
      exact ⟨_, rfl, h⟩
theorem enum_made {prog : Program} {w : World} {A : Around} {E : Value → Shared → Prop} {s : Shared} {v : Value} {o : Obj} {H : Heap → Prop} {Q : Value → Shared → Prop} (B : Begins v o H) (h1 : H s.heap)
    (h : ∀ h', IsEnum h' (s.heap.objs.size + 1) s.heap.objs.size 0 .none → h'.get? s.heap.objs.size = some o → h'.objs.size = s.heap.objs.size + 2 →
      (∀ b o, s.heap.get? b = some o → h'.get? b = some o) → Q (.ref (s.heap.objs.size + 1)) { s with heap := h' }) :
    wpAny (model prog w) A (call (.type "enumerate") [v]) Q E s := by
  refine callType_new PySem.F.called_enumerate (by decide) (PySem.F.typeCall_enumerate_1 _) (PySem.F.newCall_enumerate_1 _) (fun obj => PySem.F.args_object_init_2 obj _) PySem.F.entry_enumerate_new
    (meets_enumB B) ⟨h1, ?_⟩
  have hz : (s.heap.push o).objs.size = s.heap.objs.size + 1 := Heap.size_push ..
  show _ ∧ _
  rw [hz]
  have he : IsEnum ((s.heap.push o).push { cls := .type "enumerate", data := .fields #[.none, .bool false, .ref s.heap.objs.size, rawInt 0, .none, .none] }) (s.heap.objs.size + 1) s.heap.objs.size 0 .none := by
    have := Heap.get?_push_size (s.heap.push o) (o := { cls := .type "enumerate", data := .fields #[.none, .bool false, .ref s.heap.objs.size, rawInt 0, .none, .none] }) rfl
    rw [hz] at this; exact this
  refine ⟨⟨_, he, rfl⟩, h _ he (Heap.get?_push_of_some _ (Heap.get?_push_size _ B.free)) (by rw [Heap.size_push, hz]) fun b o x => Heap.get?_push_of_some _ (Heap.get?_push_of_some _ x)⟩
theorem turn_enumT {P : Program} {w : World} {K : PySem.W.Frag} {elts : List Expr} {kk : Nat} {tpos : Pos} (a e it : Addr) :
    Turn P w K (.Tuple elts kk tpos) (ItE K a) [e, it] e (fun i h => (∃ old, IsEnum h e it ((i : Nat) : Int) old) ∧ h.IsTupleIter it a i ∧ e ≠ it ∧ e ≠ a ∧ a ≠ it) where
  mem := by simp
  obj := fun i h st b hb => by
    obtain ⟨⟨old, he⟩, ⟨o, ho, hc, hd⟩, _⟩ := st
    have e' : b = e ∨ b = it := by simpa using hb
    rcases e' with z | z
    · rw [z]; exact ⟨_, he, fun v q => nomatch q⟩
    · rw [z]; exact ⟨o, ho, fun v q => by rw [hd] at q; cases q⟩
  keep := fun i h h' st k => let ⟨⟨old, he⟩, hi, hne⟩ := st; ⟨⟨old, k e (by simp) _ he⟩, hi.at fun o q => k it (by simp) o q, hne⟩
  item := by
    intro X hP hw hK hc i pins s σ H E I hf st hg
    subst hP hw hK
    obtain ⟨⟨old, he⟩, hit, hne, hea, hai⟩ := st
    obtain ⟨xs, x, hq, hx⟩ := hg
    obtain ⟨its, rv, p, hz⟩ := I.tuple hq
    have p' : s.heap.IsTuple a its.toArray := p
    obtain ⟨u, hu, ru⟩ := rv.get hx
    have hel : e < s.heap.objs.size := Heap.lt_size he
    have hil : it < s.heap.objs.size := by obtain ⟨_, q, _⟩ := hit; exact Heap.lt_size q
    have hi2 : i < its.toArray.size := by
      have := (List.getElem?_eq_some_iff.mp hu).1
      simpa using this
    refine wpAny_pyNext_enum_itemD (Draws.tuple (A := X.A.in1) (show X.A.in1.handled = none from I.ok.hd hc) it a hai its.toArray) he ⟨hit, p'⟩ hi2 hne (by
      intro m
      rcases List.mem_cons.mp m with m | m
      · exact hne m
      · exact hea (List.mem_singleton.mp m)) fun y h' tk hy ho hst hT hsz hk => ?_
    obtain rfl : y = u := by
      have h1 : its.toArray[i]? = some y := hy
      rw [List.getElem?_toArray, hu] at h1
      exact (Option.some.inj h1).symm
    obtain ⟨hit', _⟩ := hst
    refine ⟨_, rfl, wpAny_letOwnedTupleGo_enum (s := { s with heap := h', toks := tk + 1 }) ho fun h'' he' sb => ?_⟩
    have hT2 : h''.get? s.heap.objs.size = some { cls := .type "tuple", data := .seq #[.int i tk, y] } := (sb.2 _ (Nat.ne_of_gt hel)).trans hT
    have new : ObjOk X.prog X.w (upd H s.heap.objs.size (.tup [.int (i : Nat), x])) h'' s.heap.objs.size (.tup [.int (i : Nat), x]) :=
      ⟨by show 2 ≤ sizeLine; decide, [.int i tk, y], .cons ⟨_, rfl⟩ (.cons ru .nil), ⟨_, hT2, rfl, _, rfl⟩⟩
    have I1 : Inv X pins σ (upd H s.heap.objs.size (.tup [.int (i : Nat), x])) { s with heap := h'', toks := tk + 1 } :=
      I.turnedNew (ch := [e, it]) (fun b ob hb q => (sb.2 b (fun z => hb (by simp [z]))).trans (hk b ob (fun z => hb (by simp [z])) (fun z => hb (by simp [z])) q)) hf (Nat.le_refl _) new
    refine ⟨.ref s.heap.objs.size, _, I1, rfl, ⟨_, x, rfl, I.hok.fresh (Nat.le_refl _), rfl, fun ys hy => by rw [I.tuple_inj hy hq]; exact hx⟩, ⟨⟨y, ?_⟩, hit'.at fun o q => (sb.2 it (Ne.symm hne)).trans q, hne, hea, hai⟩, fun b hb => ?_⟩
    · have e1 : ((i + 1 : Nat) : Int) = (i : Int) + 1 := by omega
      rw [e1]; exact he'
    · have hb' : b < s.heap.objs.size := by
        have e' : b = e ∨ b = it := by simpa using hb
        rcases e' with z | z
        · rw [z]; exact hel
        · rw [z]; exact hil
      rw [upd_ne (Nat.ne_of_lt hb')]
      exact (hf b hb).1
  done := by
    intro X hP hw hK hc i pins s σ H E I hf st hg
    subst hP hw hK
    obtain ⟨⟨old, he⟩, hit, hne, hea, hai⟩ := st
    obtain ⟨xs, hq, hx⟩ := hg
    obtain ⟨its, rv, p, hz⟩ := I.tuple hq
    have p' : s.heap.IsTuple a its.toArray := p
    obtain ⟨f0, f1, f2, f3, f4, f5⟩ := hf it (by simp)
    have hl := rv.length
    have D : Draws X.prog X.w X.A.in1 it [it, a] 0 (fun _ _ => True) (fun _ h => h.IsTupleIter it a i ∧ h.IsTuple a its.toArray) :=
      { live := fun _ _ st => let ⟨o, ho, _⟩ := st.1; ⟨o, ho⟩
        frame := fun _ _ _ st hk => ⟨st.1.at fun o e => hk it (by simp) o e, st.2.at fun o e => hk a (by simp) o e⟩
        item := fun j s Q E hi st hQ => absurd hi (Nat.not_lt_zero _)
        done := fun s Q E st hE => wpAny_nextOf_tuple_end (show X.A.in1.handled = none from I.ok.hd hc) st.1 st.2 (by simp; omega) hE }
    exact wpAny_pyNext_enum_endD D he ⟨hit, p'⟩ fun h' eb => ⟨rfl, I.turned (t' := s.toks) (fun b o hb q => eb b o hb q) f0 f1 f3 f4 f5⟩
  self := fun A i s Q E st h => let ⟨⟨_, he⟩, _⟩ := st; wpAny_pyIter_enum he h
def iEnumT (K : PySem.W.Frag) (ta : TA) : TI := fun σ H R => ta σ H fun vs H1 => ∃ a xs, vs = [.ref a] ∧ SqT K H1 a xs ∧ R (ItE K a) H1
theorem pi_enumT {X : Cx} {K : PySem.W.Frag} {e : Expr} {ta : TA} {p pos tpos : Pos} {elts : List Expr} {kk : Nat} (hg : Gl X "enumerate") (hm : X.mg "enumerate" = none) (ha : PA X [e] ta) (hs : starEach [e] X.env = [(false, eval e X.env)] := by rfl) (h : X.K = K := by rfl) :
    PI X (.Tuple elts kk tpos) (.Call (.Name "enumerate" p) [e] [] pos) (iEnumT K ta) := by
  subst h
  refine ⟨fun pins s σ H R I h => ?_⟩
  refine Call_ (ld_blt I hg hm boot_enumerate (PyProof.Rows.callWith_type1 (thn (ha.run pos pins s σ H _ I h) fun us s1 ⟨vs, H1, I1, r1, q1⟩ => ?_) hs rfl))
  obtain ⟨a, xs, ex, hq, q⟩ := q1
  subst ex
  cases r1 with
  | cons r rr =>
    cases rr
    cases r
    obtain ⟨its, rv, p', hz⟩ := I1.tuple hq
    have p2 : s1.heap.IsTuple a its.toArray := p'
    have hal : a < s1.heap.objs.size := by obtain ⟨_, y, _⟩ := p2; exact Heap.lt_size y
    refine enum_made (begins_tuple a its.toArray) p2 fun h' he hit hsz hk => wpAny_pyIter_enum he ?_
    have I2 : Inv X pins σ H1 { s1 with heap := h' } := I1.kept (t' := s1.toks) hk
    refine ⟨s1.heap.objs.size + 1, [s1.heap.objs.size + 1, s1.heap.objs.size], _, _, H1, rfl, I2, turn_enumT a (s1.heap.objs.size + 1) s1.heap.objs.size, ⟨⟨.none, he⟩, ⟨_, hit, rfl, rfl⟩, Nat.succ_ne_self _, Nat.ne_of_gt (Nat.lt_succ_of_lt hal), Nat.ne_of_lt hal⟩, fun b hb => ?_, q⟩
    have e' : b = s1.heap.objs.size + 1 ∨ b = s1.heap.objs.size := by simpa using hb
    have hle : s1.heap.objs.size ≤ b := by
      rcases e' with z | z
      · rw [z]; exact Nat.le_add_right _ _
      · rw [z]; exact Nat.le_refl _
    exact I1.fpOk hle (I1.hok.fresh hle)
theorem Loop.enumT {K : PySem.W.Frag} {a : Addr} {xs : List V} {g : TG} {tb : TS} {D : Ends} {σ : L2.St} {H : Hp} (Pv : Nat → L2.St → Hp → Prop) (h0 : Pv 0 σ H) (hl : ∀ i σ H, i ≤ xs.length → Pv i σ H → SqT K H a xs)
    (hs : ∀ i x σ H T H1, xs[i]? = some x → Pv i σ H → H T = none → Same H H1 → H1 T = some (.tup [.int (i : Nat), x]) → g (.ref T) σ H1 fun σ2 H2 => tb { D with nx := Pv (i + 1), ct := Pv (i + 1), bk := D.nx } σ2 H2) (hd : ∀ σ H, Pv xs.length σ H → D.nx σ H) : Loop (ItE K a) g tb D σ H := by
  refine ⟨fun i m σ H => m = xs.length - i ∧ i ≤ xs.length ∧ Pv i σ H, ⟨xs.length, by simp, Nat.zero_le _, h0⟩, ?_⟩
  rintro i m σ H ⟨rfl, hi, p⟩
  have q := hl i σ H hi p
  by_cases hlt : i < xs.length
  · refine .inr ⟨⟨xs, xs[i], q, by simp [hlt]⟩, Pv (i + 1), fun σ' H' p' => ⟨xs.length - (i + 1), by omega, rfl, hlt, p'⟩, fun v H' y => ?_⟩
    obtain ⟨T, x, rfl, nT, rfl, f⟩ := y
    exact hs i x σ H T _ (f xs q) p nT (same_new nT) upd_same
  · have e : i = xs.length := by omega
    subst e
    exact .inl ⟨⟨xs, q, Nat.le_refl _⟩, hd σ H p⟩
theorem pe_orTK {X : Cx} {K : PySem.W.Frag} {a b : Expr} {ta tb : TE} {rest : List Expr} {pos : Pos} (ha : PE X a ta) (hb : PE X (.BoolOp .Or (b :: rest) pos) tb) (h : X.K = K := by rfl) : PE X (.BoolOp .Or (a :: b :: rest) pos) (tOrT K ta tb) := by
  subst h
  exact pe_orT ha hb
/-! ### what is no list stays -/
def KeepT (K : PySem.W.Frag) (H H1 : Hp) : Prop := ∀ a xs, SqT K H a xs → SqT K H1 a xs
theorem KeepT.same {K : PySem.W.Frag} {H H1 : Hp} (s : Same H H1) : KeepT K H H1 := fun _ _ h => Same.seqT s h
theorem KeepT.off {K : PySem.W.Frag} {H H1 : Hp} {D : Addr} {ys : List V} (o : Off D H H1) (h : H D = some (.lst ys)) : KeepT K H H1 := fun _ _ h' => SqT.off o h h'
theorem Tups.keep {K : PySem.W.Frag} {H H1 : Hp} {xs : List V} {ds : List (List V)} (t : Tups K H xs ds) (k : KeepT K H H1) : Tups K H1 xs ds := Paired.mapP t fun x d ⟨a, e, h⟩ => ⟨a, e, k _ _ h⟩
theorem papp {α β : Type} {R : α → β → Prop} : ∀ {xs ys : List α} {ds es : List β}, Paired R xs ds → Paired R ys es → Paired R (xs ++ ys) (ds ++ es)
  | _, _, _, _, .nil, t => t
  | _, _, _, _, .cons r t, u => .cons r (papp t u)
/-- a comprehension that changes nothing old and makes for each of ds a thing -/
theorem Cmp.relD {α : Type} {K : PySem.W.Frag} {a : Addr} {xs : List V} {g : TG} {te : TE} {vs : List Nat} {σ : L2.St} {H1 : Hp} {Q : VK} (ds : List α) (Rl : Hp → V → α → Prop) (hS : SqL K H1 a xs) (hl : xs.length = ds.length) (hz : xs.length ≤ 100000)
    (mono : ∀ H H' x d, KeepT K H H' → Rl H x d → Rl H' x d)
    (he : ∀ (i : Nat) (x : V) (d : α) (H2 : Hp) (R : VK), xs[i]? = some x → ds[i]? = some d → Same H1 H2 → (∀ y H3, Same H2 H3 → Rl H3 y d → R y H3) → g x (wipe σ vs) H2 fun σ2 H3 => wipe σ2 vs = wipe σ vs ∧ te σ2 H3 R)
    (hd : ∀ l H2 ys, H1 l = none → Same H1 H2 → H2 l = some (.lst ys) → Paired (Rl H2) ys ds → Q (.ref l) H2) : Cmp (Itl K a) g tYes te vs σ H1 Q := by
  refine Cmp.list (xs := xs) (fun D i acc H => H1 D = none ∧ Same H1 H ∧ H D = some (.lst acc) ∧ Paired (Rl H) acc (ds.take i)) (fun D H2 nD s2 h2 => ⟨nD, s2, h2, by rw [List.take_zero]; exact .nil⟩) (fun D i acc H _ ⟨_, s2, _⟩ => s2.seq hS) ?_ ?_
  · rintro D i x acc H Nx hx ha ⟨nD, s2, h2, ea⟩ hN
    have hi : i < xs.length := (List.getElem?_eq_some_iff.mp hx).1
    have hdi : ds[i]? = some ds[i] := List.getElem?_eq_getElem (by omega)
    refine he i x _ H _ hx hdi s2 fun y H3 s3 ry => ?_
    refine push hN ha (s3 _ _ h2) (by omega) fun H5 o5 h5 => ⟨nD, Same.off (s2.trans s3) nD o5, h5, ?_⟩
    rw [take_snoc hdi]
    have k5 : KeepT K H3 H5 := .off o5 (s3 _ _ h2)
    exact papp (Paired.mapP ea fun x d r => mono _ _ _ _ k5 (mono _ _ _ _ (.same s3) r)) (.cons (mono _ _ _ _ k5 ry) .nil)
  · rintro D acc H _ ⟨nD, s2, h2, ea⟩
    rw [hl, List.take_length] at ea
    exact hd D H acc nD s2 h2 ea
theorem Cmp.relDT {α : Type} {K : PySem.W.Frag} {a : Addr} {xs : List V} {g : TG} {te : TE} {vs : List Nat} {σ : L2.St} {H1 : Hp} {Q : VK} (ds : List α) (Rl : Hp → V → α → Prop) (hS : SqT K H1 a xs) (hl : xs.length = ds.length) (hz : xs.length ≤ 100000)
    (mono : ∀ H H' x d, KeepT K H H' → Rl H x d → Rl H' x d)
    (he : ∀ (i : Nat) (x : V) (d : α) (H2 : Hp) (R : VK), xs[i]? = some x → ds[i]? = some d → Same H1 H2 → (∀ y H3, Same H2 H3 → Rl H3 y d → R y H3) → g x (wipe σ vs) H2 fun σ2 H3 => wipe σ2 vs = wipe σ vs ∧ te σ2 H3 R)
    (hd : ∀ l H2 ys, H1 l = none → Same H1 H2 → H2 l = some (.lst ys) → Paired (Rl H2) ys ds → Q (.ref l) H2) : Cmp (Itt K a) g tYes te vs σ H1 Q := by
  refine Cmp.tup (xs := xs) (fun D i acc H => H1 D = none ∧ Same H1 H ∧ H D = some (.lst acc) ∧ Paired (Rl H) acc (ds.take i)) (fun D H2 nD s2 h2 => ⟨nD, s2, h2, by rw [List.take_zero]; exact .nil⟩) (fun D i acc H _ ⟨_, s2, _⟩ => Same.seqT s2 hS) ?_ ?_
  · rintro D i x acc H Nx hx ha ⟨nD, s2, h2, ea⟩ hN
    have hi : i < xs.length := (List.getElem?_eq_some_iff.mp hx).1
    have hdi : ds[i]? = some ds[i] := List.getElem?_eq_getElem (by omega)
    refine he i x _ H _ hx hdi s2 fun y H3 s3 ry => ?_
    refine push hN ha (s3 _ _ h2) (by omega) fun H5 o5 h5 => ⟨nD, Same.off (s2.trans s3) nD o5, h5, ?_⟩
    rw [take_snoc hdi]
    have k5 : KeepT K H3 H5 := .off o5 (s3 _ _ h2)
    exact papp (Paired.mapP ea fun x d r => mono _ _ _ _ k5 (mono _ _ _ _ (.same s3) r)) (.cons (mono _ _ _ _ k5 ry) .nil)
  · rintro D acc H _ ⟨nD, s2, h2, ea⟩
    rw [hl, List.take_length] at ea
    exact hd D H acc nD s2 h2 ea
theorem four_at {K : PySem.W.Frag} {H : Hp} {b : Addr} {x y z v : V} {i j k m : Nat} {σ : L2.St} {R : L2.St → Hp → Prop} (h : SqT K H b [x, y, z, v]) (q : R ((((σ.set i (some x)).set j (some y)).set k (some z)).set m (some v)) H) : gTup K 4 (gCons (gName i) (gCons (gName j) (gCons (gName k) (gCons (gName m) gNil)))) (.ref b) σ H R :=
  ⟨b, [x, y, z, v], rfl, h, rfl, x, [y, z, v], rfl, y, [z, v], rfl, z, [v], rfl, v, [], rfl, rfl, q⟩
theorem two_atT {K : PySem.W.Frag} {H : Hp} {b : Addr} {x y : V} {i j : Nat} {σ : L2.St} {R : L2.St → Hp → Prop} (h : SqT K H b [x, y]) (q : R ((σ.set i (some x)).set j (some y)) H) : gTup K 2 (gCons (gName i) (gCons (gName j) gNil)) (.ref b) σ H R :=
  ⟨b, [x, y], rfl, h, rfl, x, [y], rfl, y, [], rfl, rfl, q⟩
end Ru

set_option Elab.async false
set_option linter.all false
set_option maxRecDepth 100000
set_option maxHeartbeats 4000000
/-! isinstance of an own class's object -/
namespace Rv
open PySem PySem.Spec PyProof.Rows L2 Rb Rx Rg Rs
structure InsC (K : PySem.W.Frag) (C : Addr) : Prop where
  cl : Cls K C
  at_ : PySem.W.findIn K (.ref C) "__class__" = some (some (.builtin "object.__class__"))
  get : PySem.W.specialIn K (.builtin "object.__class__") "__get__" = some (some (.builtin "getset_descriptor.__get__"))
  tk : PySem.W.takesIn K (.builtin "object.__class__") = some true
  mo : PySem.W.mroIn K C (.type "object") = some true
theorem tyx_ins {K : PySem.W.Frag} {H : Hp} {a C dx : Addr} {fs : List (Str × V)} (J : InsC K C) (e : H a = some (.ins C dx fs)) : TyX K H (.ref a) (.ref C) := .base (.ins e J.cl J.at_ J.get J.tk J.mo)
theorem isI {K : PySem.W.Frag} {H : Hp} {x : V} {D : Addr} {t : Value} {b : Bool} {R : Bool → Prop} (ty : TyX K H x t) (h : PySem.W.kitOne K t (.ref D) = some b) (q : R b) : ∃ (t' u : Value), ClsV (.ref D) u ∧ TyX K H x t' ∧ ∃ b', PySem.W.kitOne K t' u = some b' ∧ R b' := ⟨_, _, .own D, ty, b, h, q⟩
theorem kit_self {K : PySem.W.Frag} {t : Value} : PySem.W.kitOne K t t = some true := by
  unfold PySem.W.kitOne
  rw [if_pos (beq_self_eq_true t)]
/-! ### zip(tuple, list) -/
def ItzM (K : PySem.W.Frag) (a b : Addr) : It :=
  ⟨fun i H => ∃ (xs ys : List V) (x y : V), SqT K H a xs ∧ SqL K H b ys ∧ xs[i]? = some x ∧ ys[i]? = some y,
    fun i H v H' => ∃ T x y, v = .ref T ∧ H T = none ∧ H' = upd H T (.tup [x, y]) ∧ (∀ xs, SqT K H a xs → xs[i]? = some x) ∧ ∀ ys, SqL K H b ys → ys[i]? = some y,
    fun i H => ∃ xs ys : List V, SqT K H a xs ∧ SqL K H b ys ∧ i ≤ xs.length ∧ i ≤ ys.length ∧ (i = xs.length ∨ i = ys.length)⟩
theorem turn_zipM {P : Program} {w : World} {K : PySem.W.Frag} {elts : List Expr} {kk : Nat} {tpos : Pos} {a b z TI TO i1 i2 : Addr} (D : ZipSep2 z TI TO i1 i2 [i1, a] [i2, b]) (ha : a ≠ i1) (hb : b ≠ i2) :
    Turn P w K (.Tuple elts kk tpos) (ItzM K a b) [z, TI, TO, i1, i2] z (fun i h => IsZip h z TI TO .none ∧ IsTupOf2 h TI (.ref i1) (.ref i2) ∧ (∃ x y, IsTupOf2 h TO x y) ∧ h.IsTupleIter i1 a i ∧ h.IsListIter i2 b i) where
  mem := by simp
  obj := fun i h st c hc => by
    obtain ⟨hz, hTI, ⟨x, y, hTO⟩, ⟨o1, e1, _, d1⟩, ⟨o2, e2, _, d2⟩⟩ := st
    have e' : c = z ∨ c = TI ∨ c = TO ∨ c = i1 ∨ c = i2 := by simpa using hc
    rcases e' with q | q | q | q | q
    · rw [q]; exact ⟨_, hz, fun v q => nomatch q⟩
    · rw [q]; exact ⟨_, hTI, fun v q => nomatch q⟩
    · rw [q]; exact ⟨_, hTO, fun v q => nomatch q⟩
    · rw [q]; exact ⟨o1, e1, fun v q => by rw [d1] at q; cases q⟩
    · rw [q]; exact ⟨o2, e2, fun v q => by rw [d2] at q; cases q⟩
  keep := fun i h h' st k => by
    obtain ⟨hz, hTI, ⟨x, y, hTO⟩, h1, h2⟩ := st
    exact ⟨k z (by simp) _ hz, k TI (by simp) _ hTI, ⟨x, y, k TO (by simp) _ hTO⟩, h1.at fun o q => k i1 (by simp) o q, h2.at fun o q => k i2 (by simp) o q⟩
  item := by
    intro X hP hw hK hc i pins s σ H E I hf st hg
    subst hP hw hK
    obtain ⟨hz, hTI, ⟨x0, y0, hTO⟩, h1, h2⟩ := st
    obtain ⟨xs, ys, x, y, hqx, hqy, hx, hy⟩ := hg
    obtain ⟨its, rv, p, _⟩ := I.tuple hqx
    obtain ⟨its2, rv2, p2, _⟩ := I.list hqy
    have p1' : s.heap.IsTuple a its.toArray := p
    obtain ⟨u, hu, ru⟩ := rv.get hx
    obtain ⟨u2, hu2, ru2⟩ := rv2.get hy
    have hzl : z < s.heap.objs.size := Heap.lt_size hz
    have hh : X.A.in1.handled = none := I.ok.hd hc
    have l1 : i < its.toArray.size := by have := (List.getElem?_eq_some_iff.mp hu).1; simpa using this
    have l2 : i < its2.toArray.size := by have := (List.getElem?_eq_some_iff.mp hu2).1; simpa using this
    refine wpAny_pyNext_zipD2_item D (Draws.tuple (A := X.A.in1) hh i1 a ha its.toArray) (Draws.list (A := X.A.in1) hh i2 b hb its2.toArray) hz hTI hTO ⟨h1, p1'⟩ ⟨h2, p2.isList⟩ l1 l2 fun x1 x2 h' tk q1 q2 z' TO' st1' st2' hT hsz hk => ?_
    obtain rfl : x1 = u := by
      have h1 : its.toArray[i]? = some x1 := q1
      rw [List.getElem?_toArray, hu] at h1
      exact (Option.some.inj h1).symm
    obtain rfl : x2 = u2 := by
      have h1 : its2.toArray[i]? = some x2 := q2
      rw [List.getElem?_toArray, hu2] at h1
      exact (Option.some.inj h1).symm
    obtain ⟨h1', _⟩ := st1'
    obtain ⟨h2', _⟩ := st2'
    refine ⟨_, rfl, wpAny_letOwnedTupleGo_zip (s := { s with heap := h', toks := tk }) z' fun h'' z'' sb => ?_⟩
    have hT2 : h''.get? s.heap.objs.size = some { cls := .type "tuple", data := .seq #[x1, x2] } := (sb.2 _ (Nat.ne_of_gt hzl)).trans hT
    have new : ObjOk X.prog X.w (upd H s.heap.objs.size (.tup [x, y])) h'' s.heap.objs.size (.tup [x, y]) :=
      ⟨by show 2 ≤ sizeLine; decide, [x1, x2], .cons ru (.cons ru2 .nil), ⟨_, hT2, rfl, _, rfl⟩⟩
    have I1 : Inv X pins σ (upd H s.heap.objs.size (.tup [x, y])) { s with heap := h'', toks := tk } :=
      I.turnedNew (t' := tk) (ch := [z, TI, TO, i1, i2]) (fun c o hb q => (sb.2 c (fun q' => hb (by simp [q']))).trans (hk c o (fun q' => hb (by simp [q'])) (fun q' => hb (by simp [q'])) (fun q' => hb (by simp [q'])) (fun q' => hb (by simp [q'])) q)) hf (Nat.le_refl _) new
    refine ⟨.ref s.heap.objs.size, _, I1, rfl, ⟨_, x, y, rfl, I.hok.fresh (Nat.le_refl _), rfl, fun l hl => by rw [I.tuple_inj hl hqx]; exact hx, fun l hl => by rw [I.list_inj hl hqy]; exact hy⟩, ⟨z'', ?_, ⟨x1, x2, ?_⟩, ?_, ?_⟩, fun c hcm => ?_⟩
    · exact (sb.2 _ D.TIz).trans (hk _ _ D.TIz D.TITO D.TIi1 D.TIi2 hTI)
    · exact (sb.2 _ D.TOz).trans TO'
    · exact h1'.at fun o q => (sb.2 _ (Ne.symm D.zi1)).trans q
    · exact h2'.at fun o q => (sb.2 _ (Ne.symm D.zi2)).trans q
    · have hlt : c < s.heap.objs.size := by
        have e' : c = z ∨ c = TI ∨ c = TO ∨ c = i1 ∨ c = i2 := by simpa using hcm
        rcases e' with q | q | q | q | q
        · rw [q]; exact hzl
        · rw [q]; exact Heap.lt_size hTI
        · rw [q]; exact Heap.lt_size hTO
        · rw [q]; obtain ⟨_, e1, _⟩ := h1; exact Heap.lt_size e1
        · rw [q]; obtain ⟨_, e2, _⟩ := h2; exact Heap.lt_size e2
      rw [upd_ne (Nat.ne_of_lt hlt)]
      exact (hf c hcm).1
  done := by
    intro X hP hw hK hc i pins s σ H E I hf st hg
    subst hP hw hK
    obtain ⟨hz, hTI, ⟨x0, y0, hTO⟩, h1, h2⟩ := st
    obtain ⟨xs, ys, hqx, hqy, e1, e2, hend⟩ := hg
    obtain ⟨its, rv, p, _⟩ := I.tuple hqx
    obtain ⟨its2, rv2, p2, _⟩ := I.list hqy
    have p1' : s.heap.IsTuple a its.toArray := p
    have l1 := rv.length
    have l2 := rv2.length
    have hh : X.A.in1.handled = none := I.ok.hd hc
    exact wpAny_pyNext_zipD2_end D (Draws.tuple (A := X.A.in1) hh i1 a ha its.toArray) (Draws.list (A := X.A.in1) hh i2 b hb its2.toArray) hz hTI hTO ⟨h1, p1'⟩ ⟨h2, p2.isList⟩ (by simp; omega) (by simp; omega) (by simp; omega) fun h' tk hk => ⟨rfl, I.turnedL (t' := tk) (ch := [z, TI, TO, i1, i2]) (fun c o hb q =>
      hk c o (fun q' => hb (by simp [q'])) (fun q' => hb (by simp [q'])) (fun q' => hb (by simp [q'])) (fun q' => hb (by simp [q'])) q) hf⟩
  self := fun A i s Q E st h => wpAny_pyIter_zip st.1 h
def iZipM (K : PySem.W.Frag) (ta : TA) : TI := fun σ H R => ta σ H fun vs H1 => ∃ a b xs ys, vs = [.ref a, .ref b] ∧ SqT K H1 a xs ∧ SqL K H1 b ys ∧ R (ItzM K a b) H1
theorem pi_zipM {X : Cx} {K : PySem.W.Frag} {e e2 : Expr} {ta : TA} {p pos tpos : Pos} {elts : List Expr} {kk : Nat} (hg : Gl X "zip") (hm : X.mg "zip" = none) (ha : PA X [e, e2] ta)
    (hs : starEach [e, e2] X.env = (false, eval e X.env) :: starEach [e2] X.env := by rfl) (hpl : (backTo pos (starEach [e2] X.env)).any (·.1) = false := by rfl) (h : X.K = K := by rfl) :
    PI X (.Tuple elts kk tpos) (.Call (.Name "zip" p) [e, e2] [] pos) (iZipM K ta) := by
  subst h
  refine ⟨fun pins s σ H R I h => ?_⟩
  refine Call_ (ld_blt I hg hm PyProof.Rows.boot_zip (PyProof.Rows.callWith_type1 (thn (ha.run pos pins s σ H _ I h) fun us s1 ⟨vs, H1, I1, r1, q1⟩ => ?_) hs hpl))
  obtain ⟨a, b, xs, ys, ex, hqx, hqy, q⟩ := q1
  subst ex
  cases r1 with
  | cons r rr =>
    cases rr with
    | cons r' rr =>
      cases rr
      cases r
      cases r'
      have fresh5 : ∀ c, c ∈ [s1.heap.objs.size + 4, s1.heap.objs.size + 2, s1.heap.objs.size + 3, s1.heap.objs.size, s1.heap.objs.size + 1] → FpOk X pins H1 c := fun c hcm => by
        have e' : c = s1.heap.objs.size + 4 ∨ c = s1.heap.objs.size + 2 ∨ c = s1.heap.objs.size + 3 ∨ c = s1.heap.objs.size ∨ c = s1.heap.objs.size + 1 := by simpa using hcm
        have hle : s1.heap.objs.size ≤ c := by
          rcases e' with z | z | z | z | z
          · rw [z]; exact Nat.le_add_right _ _
          · rw [z]; exact Nat.le_add_right _ _
          · rw [z]; exact Nat.le_add_right _ _
          · rw [z]; exact Nat.le_refl _
          · rw [z]; exact Nat.le_add_right _ _
        exact I1.fpOk hle (I1.hok.fresh hle)
      obtain ⟨its, rv, p1, _⟩ := I1.tuple hqx
      obtain ⟨its2, rv2, p2, _⟩ := I1.list hqy
      have p1' : s1.heap.IsTuple a its.toArray := p1
      have p2' : s1.heap.IsList b its2.toArray := p2.isList
      have hal : a < s1.heap.objs.size := by obtain ⟨_, y, _⟩ := p1'; exact Heap.lt_size y
      have hbl : b < s1.heap.objs.size := by obtain ⟨_, y, _⟩ := p2'; exact Heap.lt_size y
      refine zip_begins2 (begins_tuple a its.toArray) (begins_list b its2.toArray) p1' p2' fun h' hz hTI hTO h1 h2 hsz hk => wpAny_pyIter_zip hz ?_
      have I2 : Inv X pins σ H1 { s1 with heap := h' } := I1.kept (t' := s1.toks) hk
      have sep : ZipSep2 (s1.heap.objs.size + 4) (s1.heap.objs.size + 2) (s1.heap.objs.size + 3) s1.heap.objs.size (s1.heap.objs.size + 1) [s1.heap.objs.size, a] [s1.heap.objs.size + 1, b] := zip_sep2 (N := s1.heap.objs.size) (fp1 := [a]) (fp2 := [b]) (fun c hc => by rw [List.mem_singleton.mp hc]; exact hal) (fun c hc => by rw [List.mem_singleton.mp hc]; exact hbl)
      exact ⟨s1.heap.objs.size + 4, [s1.heap.objs.size + 4, s1.heap.objs.size + 2, s1.heap.objs.size + 3, s1.heap.objs.size, s1.heap.objs.size + 1], _, _, H1, rfl, I2, turn_zipM sep (Nat.ne_of_lt hal) (Nat.ne_of_lt (Nat.lt_succ_of_lt hbl)), ⟨hz, hTI, ⟨_, _, hTO⟩, ⟨_, h1, rfl, rfl⟩, ⟨_, h2, rfl, rfl⟩⟩, fresh5, q⟩
theorem Loop.zipM {K : PySem.W.Frag} {a b : Addr} {xs ys : List V} {g : TG} {tb : TS} {D : Ends} {σ : L2.St} {H : Hp} (hn : xs.length = ys.length) (Pv : Nat → L2.St → Hp → Prop) (h0 : Pv 0 σ H) (hl : ∀ i σ H, i ≤ xs.length → Pv i σ H → SqT K H a xs ∧ SqL K H b ys)
    (hs : ∀ i x y σ H T H1, xs[i]? = some x → ys[i]? = some y → Pv i σ H → H T = none → Same H H1 → H1 T = some (.tup [x, y]) → g (.ref T) σ H1 fun σ2 H2 => tb { D with nx := Pv (i + 1), ct := Pv (i + 1), bk := D.nx } σ2 H2) (hd : ∀ σ H, Pv xs.length σ H → D.nx σ H) : Loop (ItzM K a b) g tb D σ H := by
  refine ⟨fun i m σ H => m = xs.length - i ∧ i ≤ xs.length ∧ Pv i σ H, ⟨xs.length, by simp, Nat.zero_le _, h0⟩, ?_⟩
  rintro i m σ H ⟨rfl, hi, p⟩
  have q := hl i σ H hi p
  by_cases hlt : i < xs.length
  · refine .inr ⟨⟨xs, ys, xs[i], ys[i]'(by omega), q.1, q.2, by simp [hlt], by simp [show i < ys.length by omega]⟩, Pv (i + 1), fun σ' H' p' => ⟨xs.length - (i + 1), by omega, rfl, hlt, p'⟩, fun v H' y => ?_⟩
    obtain ⟨T, x, y, rfl, nT, rfl, f1, f2⟩ := y
    exact hs i x y σ H T _ (f1 xs q.1) (f2 ys q.2) p nT (same_new nT) upd_same
  · have e : i = xs.length := by omega
    subst e
    exact .inl ⟨⟨xs, ys, q.1, q.2, Nat.le_refl _, by omega, .inl rfl⟩, hd σ H p⟩
end Rv

set_option Elab.async false
set_option linter.all false
set_option maxRecDepth 100000
set_option maxHeartbeats 4000000
/-! tuples of the very same things; a comprehension with a test -/
namespace Rw
open PySem PySem.Spec PyProof.Rows L2 Rb Rx Rg Rs
def rEqT (K : PySem.W.Frag) : R2 := fun x y H Q => ∃ a b xs, x = .ref a ∧ y = .ref b ∧ SqT K H a xs ∧ SqT K H b xs ∧ xs.all atom = true ∧ Q (.bl true) H
def rNeT (K : PySem.W.Frag) : R2 := fun x y H Q => ∃ a b xs, x = .ref a ∧ y = .ref b ∧ SqT K H a xs ∧ SqT K H b xs ∧ xs.all atom = true ∧ Q (.bl false) H
theorem same_items {A : Around} {s : Shared} {xs : List V} {its its2 : List Value} (r : Vals xs its) (r2 : Vals xs its2) (hx : xs.all atom = true) (j : Nat) (h1 : j < its.toArray.size) (h2 : j < its2.toArray.size) : SeqAt.EqAt A s its.toArray[j] its2.toArray[j] true := by
  have k1 : j < its.length := by simpa using h1
  have k2 : j < its2.length := by simpa using h2
  have k : j < xs.length := by rw [r.length]; exact k1
  obtain ⟨u1, hu1, ru1⟩ := r.get (List.getElem?_eq_getElem k)
  obtain ⟨u2, hu2, ru2⟩ := r2.get (List.getElem?_eq_getElem k)
  rw [List.getElem?_eq_getElem k1] at hu1
  rw [List.getElem?_eq_getElem k2] at hu2
  have e1 : its.toArray[j] = u1 := by simpa using hu1
  have e2 : its2.toArray[j] = u2 := by simpa using hu2
  rw [e1, e2]
  exact atom_eq ru1 ru2 (List.all_eq_true.mp hx _ (List.getElem_mem k))
theorem op_eqT {X : Cx} {K : PySem.W.Frag} (hu : X.A.units + 64 < cLine) (h : X.K = K := by rfl) : OpR X (compareOp .Eq) (rEqT K) := by
  subst h
  intro pins s σ H x y v u Q I rx ry h
  obtain ⟨a, b, xs, rfl, rfl, ha, hb, hx, q⟩ := h
  cases rx
  cases ry
  obtain ⟨its, r, p1, _⟩ := I.tuple ha
  obtain ⟨its2, r2, p2, _⟩ := I.tuple hb
  have p1' : s.heap.IsTuple a its.toArray := p1
  have p2' : s.heap.IsTuple b its2.toArray := p2
  have sz : its.toArray.size = its2.toArray.size := by rw [List.size_toArray, List.size_toArray, ← r.length, ← r2.length]
  refine SeqAt.RcAt.tuples (e := fun _ => true) p1' p2' (by omega) (fun j h1 h2 => same_items r r2 hx j h1 h2) _ _ _ _ ?_
  rw [List.all_eq_true.mpr (fun _ _ => rfl), sz, beq_self_eq_true, Bool.and_self]
  exact ⟨.bl true, H, I, rfl, q⟩
theorem op_neT {X : Cx} {K : PySem.W.Frag} (hu : X.A.units + 64 < cLine) (h : X.K = K := by rfl) : OpR X (compareOp .NotEq) (rNeT K) := by
  subst h
  intro pins s σ H x y v u Q I rx ry h
  obtain ⟨a, b, xs, rfl, rfl, ha, hb, hx, q⟩ := h
  cases rx
  cases ry
  obtain ⟨its, r, p1, _⟩ := I.tuple ha
  obtain ⟨its2, r2, p2, _⟩ := I.tuple hb
  have p1' : s.heap.IsTuple a its.toArray := p1
  have p2' : s.heap.IsTuple b its2.toArray := p2
  have sz : its.toArray.size = its2.toArray.size := by rw [List.size_toArray, List.size_toArray, ← r.length, ← r2.length]
  refine SeqAt.RcNeAt.tuples (e := fun _ => true) p1' p2' (by omega) (fun j h1 h2 => same_items r r2 hx j h1 h2) _ _ _ _ ?_
  rw [List.all_eq_true.mpr (fun _ _ => rfl), sz, beq_self_eq_true, Bool.and_self]
  exact ⟨.bl false, H, I, rfl, q⟩
/-- a list's or tuple's constant elements, one by one (not by unfolding alone: a long list is too much for the kernel then) -/
theorem tCons_c {v : V} {t : L2.TA} : tCons (tC v) t = fun σ H Q => t σ H fun vs H2 => Q (v :: vs) H2 := id rfl
theorem pmapR {α β γ : Type} {R : α → γ → Prop} {f : β → γ} : ∀ {ys : List α} {is : List β}, Paired (fun y i => R y (f i)) ys is → Paired R ys (is.map f)
  | _, _, .nil => .nil
  | _, _, .cons h t => .cons h (pmapR t)
/-- a comprehension with a test, that changes nothing: one thing for each of ds that passes -/
theorem Cmp.filtD {α : Type} {K : PySem.W.Frag} {a : Addr} {xs : List V} {g : TG} {tt : TT} {te : TE} {vs : List Nat} {σ : L2.St} {H1 : Hp} {Q : VK} (ds : List α) (p : α → Bool) (f : α → V) (hS : SqL K H1 a xs) (hl : xs.length = ds.length) (hz : xs.length ≤ 100000)
    (he : ∀ (i : Nat) (x : V) (d : α) (H2 : Hp) (Nx : Hp → Prop) (R : VK), xs[i]? = some x → ds[i]? = some d → Same H1 H2 → (p d = true → ∀ H3, Same H2 H3 → R (f d) H3) → (p d = false → ∀ H3, Same H2 H3 → Nx H3) → g x (wipe σ vs) H2 fun σ2 H3 => wipe σ2 vs = wipe σ vs ∧ tt σ2 H3 fun b H4 => if b = true then te σ2 H4 R else Nx H4)
    (hd : ∀ l H2, H1 l = none → Same H1 H2 → H2 l = some (.lst ((ds.filter p).map f)) → Q (.ref l) H2) : Cmp (Itl K a) g tt te vs σ H1 Q := by
  refine Cmp.list (xs := xs) (fun D i acc H => H1 D = none ∧ Same H1 H ∧ H D = some (.lst acc) ∧ acc = ((ds.take i).filter p).map f) (fun D H2 nD s2 h2 => ⟨nD, s2, h2, by simp⟩) (fun D i acc H _ ⟨_, s2, _⟩ => s2.seq hS) ?_ ?_
  · rintro D i x acc H Nx hx ha ⟨nD, s2, h2, ea⟩ hN
    have hi : i < xs.length := (List.getElem?_eq_some_iff.mp hx).1
    have hdi : ds[i]? = some ds[i] := List.getElem?_eq_getElem (by omega)
    refine he i x _ H Nx _ hx hdi s2 (fun ep H3 s3 => ?_) (fun ep H3 s3 => ?_)
    · refine push hN ha (s3 _ _ h2) (by omega) fun H5 o5 h5 => ⟨nD, Same.off (s2.trans s3) nD o5, h5, ?_⟩
      rw [ea, take_snoc hdi, List.filter_append, List.map_append, List.filter_cons, if_pos ep]
      rfl
    · refine hN acc H3 (by omega) ⟨nD, s2.trans s3, s3 _ _ h2, ?_⟩
      rw [ea, take_snoc hdi, List.filter_append, List.map_append, List.filter_cons, if_neg (by rw [ep]; decide)]
      simp
  · rintro D acc H _ ⟨nD, s2, h2, ea⟩
    rw [hl, List.take_length] at ea
    exact hd D H nD s2 (ea ▸ h2)
end Rw

set_option Elab.async false
set_option linter.all false
set_option maxRecDepth 100000
set_option maxHeartbeats 4000000
/-! list.count of truths -/
namespace Ry
open PySem PySem.Spec PyProof.Rows L2 Rb Rx Rg Rs
def eqb (k : Bool) (v : Value) : Bool := match v with
  | .bool n => n == k
  | _ => false
theorem bool_val {k : Bool} : ∀ {bs : List Bool} {us : List Value}, Vals (bs.map V.bl) us → us = bs.map Value.bool
  | [], _, h => by
    cases h
    rfl
  | b :: r, _, h => by
    cases h with
    | cons h1 h2 =>
      have := bool_val (k := k) h2
      cases h1
      rw [this]
      rfl
theorem eqb_count {k : Bool} : ∀ bs : List Bool, (bs.map Value.bool).countP (eqb k) = bs.count k
  | [] => rfl
  | b :: r => by
    have ih := eqb_count (k := k) r
    rw [List.map_cons, List.countP_cons, List.count_cons, ih]
    rfl
def rCntB (K : PySem.W.Frag) : V → List V → Hp → VK → Prop := fun x xs H Q => ∃ (p : Addr) (bs : List Bool) (k : Bool), x = .ref p ∧ xs = [.bl k] ∧ SqL K H p (bs.map V.bl) ∧ Q (.int (bs.count k : Nat)) H
theorem mt_lcountB {X : Cx} {K : PySem.W.Frag} (h : X.K = K := by rfl) : MtR X "list.count" (rCntB K) := by
  subst h
  intro pins s σ H x xs v us Q I rx rxs h
  obtain ⟨p, bs, k, rfl, rfl, hs, q⟩ := h
  cases rx
  obtain ⟨u, rfl, ru⟩ := rxs.one
  cases ru
  obtain ⟨its, rv, ⟨⟨cls, dd, data, sl⟩, n, ho, hc, hdn, hd⟩, hlen⟩ := I.list hs
  simp only at hc hd
  subst hc hd
  have hi := bool_val (k := k) rv
  subst hi
  refine call_meets PySem.F.slot_list_count ⟨_, ho, rfl⟩ PySem.F.entry_list_count (PySem.F.args_list_count_2 _ _)
    (SeqAt.list_countAt p (bs.map Value.bool).toArray n dd sl (.bool k) (eqb k)) ⟨ho, fun y hy => ?_, ?_⟩
  · obtain ⟨b, _, rfl⟩ := List.mem_map.mp (List.mem_toArray.mp hy)
    exact SeqAt.EqAt.bool_bool b k
  · have ec : (bs.map Value.bool).toArray.toList.countP (eqb k) = bs.count k := eqb_count bs
    refine ⟨.int (bs.count k : Nat), H, I.tok _, ⟨s.toks, ?_⟩, q⟩
    show Value.int (((bs.map Value.bool).toArray.toList.countP (eqb k) : Nat) : Int) s.toks = Value.int ((bs.count k : Nat) : Int) s.toks
    rw [ec]
end Ry

set_option Elab.async false
set_option linter.all false
set_option maxRecDepth 100000
set_option maxHeartbeats 4000000
/-! len(set(xs)), xs a list of unlike strs -/
namespace Rz
open PySem PySem.Spec PyProof.Rows L2 Rb Rx Rg Rs
/-- one of the first i -/
def among (xs : List Str) (i : Nat) (k : Str) : Bool := (xs.take i).any (· == k)
theorem among_succ {xs : List Str} {i : Nat} {x : Str} (h : xs[i]? = some x) (k : Str) : (among xs i k || decide (k = x)) = among xs (i + 1) k := by
  unfold among
  rw [List.take_add_one, h, List.any_append]
  congr 1
  show decide (k = x) = ((x == k) || false)
  rw [Bool.or_false]
  by_cases e : k = x
  · subst e
    simp
  · rw [decide_eq_false e]
    exact (beq_eq_false_iff_ne.mpr fun h' => e h'.symm).symm
theorem among_not {xs : List Str} {i : Nat} {x : Str} (nd : xs.Nodup) (h : xs[i]? = some x) : among xs i x = false := by
  unfold among
  rw [List.any_eq_false]
  intro y hy e
  have e := eq_of_beq e
  subst e
  obtain ⟨j, hj⟩ := List.mem_iff_getElem?.mp hy
  rw [List.getElem?_take] at hj
  split at hj
  · rename_i g
    have := (List.getElem?_inj (List.getElem?_eq_some_iff.mp hj).1 nd).mp (hj.trans h.symm)
    omega
  · cases hj
section
variable {prog : Program} {w : World} {A : Around} {R : Result → Shared → Prop} {I : Addr} {fp wr : List Addr} {G : Array GenState → Array GenState → Prop} {n : Nat} {P : Nat → Value → Prop} {St : Nat → Shared → Prop}
theorem put_all (W : WalksS prog w A.in1 I fp wr G n P St) (D : Addr) (hD : D ∉ fp) (xs : List Str) (nd : xs.Nodup) (hn : xs.length = n) (hb : n + 1 < scanBound)
    (hv : ∀ i v, P i v → ∃ x t, xs[i]? = some x ∧ v = .str x t) :
    ∀ (k i : Nat) (s : Shared) (R : Result → Shared → Prop), n - i = k → i ≤ n → St i s → s.heap.SetOf (PySem.strKind prog w) D (among xs i) i →
      (∀ s', Moved (D :: wr) G s s' → s'.heap.SetOf (PySem.strKind prog w) D (among xs n) n → R (.ok (.ret .none)) s') →
      codeAny (model prog w) A (.builtin "set.update.loop" ⟨[.ref D, .ref I], []⟩) R s := by
  have out : D ∉ wr := fun h => hD (W.sub _ h)
  have more : ∀ b ∈ wr, b ∈ D :: wr := fun b hb => List.mem_cons_of_mem _ hb
  intro k
  induction k with
  | zero =>
    intro i s R hk hi hst hS hR
    obtain rfl : i = n := by omega
    refine codeAny_builtin F.entry_set_update_loop ?_
    rw [Around.under_plainId F.plain_set_update_loop _]
    show wpAny _ A.in1 (pyNext (.ref I) >>= _) _ _ s
    refine wpAny_bind (W.done s _ _ hst fun s' hm => wpAny_pure (hR s' (hm.mono more) ?_))
    obtain ⟨o, es, ep, t, ho, rest⟩ := hS
    exact ⟨o, es, ep, t, hm.heap D _ out ho, rest⟩
  | succ k ih =>
    intro i s R hk hi hst hS hR
    have hlt : i < n := by omega
    refine codeAny_builtin F.entry_set_update_loop ?_
    rw [Around.under_plainId F.plain_set_update_loop _]
    show wpAny _ A.in1 (pyNext (.ref I) >>= _) _ _ s
    refine wpAny_bind (W.item i s _ _ hlt hst fun v s' hP hst' hm => ?_)
    obtain ⟨x, t, hx, rfl⟩ := hv i v hP
    have hS' : s'.heap.SetOf (PySem.strKind prog w) D (among xs i) i := by
      obtain ⟨o, es, ep, tb, ho, rest⟩ := hS
      exact ⟨o, es, ep, tb, hm.heap D _ out ho, rest⟩
    show wpAny _ A.in1 (holding [Value.str x t] (setAdd D (.str x t)) >>= _) _ _ s'
    refine wpAny_bind (wpAny_holding ?_)
    unfold setAdd
    refine wpAny_holding (wpAny_bind ((PySem.strKind prog w).pyHash (k := x) (strKind_is _ _ _ _) ?_))
    refine wpAny_setAddHashed_of (knd := PySem.strKind prog w) (s := { s' with toks := s'.toks + 1 }) (strKind_is _ _ _ _) rfl hS' (by omega) fun h' same hS2 => ?_
    have hS3 : h'.SetOf (PySem.strKind prog w) D (among xs (i + 1)) (i + 1) := SetOf_congr hS2 (among_succ hx) (by rw [among_not nd hx]; rfl)
    refine wpAny_pure ⟨plainId_quiet F.plain_set_update_loop _, ih (i + 1) _ _ (by omega) hlt (W.frame _ s' _ _ hst' (Nat.le_succ _) fun b hb o e => ?_) hS3 fun s'' hm2 hS4 => ?_⟩
    · rw [same.2 b fun h => hD (h ▸ hb)]
      exact e
    · refine hR s'' (Moved.trans W.gtrans ((hm.mono more).then_heap (Nat.le_succ _) fun b o hb e => ?_) hm2) hS4
      rw [same.2 b fun h => hb (h ▸ List.mem_cons_self)]
      exact e
end
section
variable {prog : Program} {w : World} {A : Around} {E : Value → Shared → Prop} {s : Shared}
/-- the new set, as it is begun -/
def begun (led : Bool) : Obj := { cls := .type "set", dict := none, data := .set #[] 0 (.fresh 0 0 led) }
set_option maxHeartbeats 3200000 in
theorem set_of_list {l : Addr} {items : Array Value} {xs : List Str} {Q : Value → Shared → Prop} (hh : A.handled = none) (hl : s.heap.IsList l items) (hi : StrsAre items.toList xs) (nd : xs.Nodup) (hb : xs.length + 1 < scanBound)
    (h : ∀ (h' : Heap) (tk : Nat), h'.SetOf (PySem.strKind prog w) s.heap.objs.size (among xs xs.length) xs.length → (∀ b o, b < s.heap.objs.size → s.heap.get? b = some o → h'.get? b = some o) → Q (.ref s.heap.objs.size) { s with heap := h', toks := tk }) :
    wpAny (model prog w) A (call (.type "set") [.ref l]) Q E s := by
  obtain ⟨c, tl, hmro⟩ := PySem.F.called_set.mro
  have hmade := PySem.F.called_set.made
  have hsub := PySem.F.called_set.sub
  have hsz : items.size = xs.length := by rw [← StrsAre.len_eq hi, Array.length_toList]
  refine wpAny_call (codeAny_of_tree ?_)
  show wpAny _ _ (callAny (.type "set") _) _ _ _
  refine wpAny_pure ⟨Code.quiet_builtin _ (by decide +kernel), codeAny_builtin PySem.F.entry_type_call ?_⟩
  rw [Around.under_plain (weight_type_call_type "set" [.ref l] []) rfl]
  have h1 := PySem.F.called_set.notType
  have h2 := PySem.F.called_set.canCreate
  have hct := PySem.F.typeCall_set_1 (.ref l)
  repeat (any_goals (first | assumption | wp_step))
  refine codeAny_mono (code_set_new_1 (.ref l) (E := E) (Q₁ := fun obj s₁ => ∃ led : Bool, obj = .ref s.heap.objs.size ∧ s₁ = { s with heap := s.heap.push (begun led) }) fun led => ⟨led, rfl, rfl⟩) fun r s₁ hr => ?_
  cases r with
  | error e => exact hr
  | ok fl =>
    cases fl with
    | ret obj =>
      obtain ⟨led, rfl, rfl⟩ := hr
      have hS : (s.heap.push (begun led)).get? s.heap.objs.size = some (begun led) := Heap.get?_push_size _ rfl
      have hT : Shared.TypeIs { s with heap := s.heap.push (begun led) } (.ref s.heap.objs.size) "set" := ⟨_, hS, rfl⟩
      have hli := PySem.F.called_set.init.lookup
      have hbi := PySem.F.called_set.init.bind (.ref s.heap.objs.size)
      repeat (any_goals (first | assumption | wp_step))
      refine codeAny_mono (codeAny_call_builtin (R := wants (fun r s₂ => r = .none ∧ ∃ h' tk, s₂ = { s with heap := h', toks := tk } ∧ h'.SetOf (PySem.strKind prog w) s.heap.objs.size (among xs xs.length) xs.length ∧
          (∀ b o, b < s.heap.objs.size → s.heap.get? b = some o → h'.get? b = some o)) E) PySem.F.called_set.init.plain PySem.F.entry_set_init (check_set_init_1 hT ?_)) fun r₂ s₂ hr₂ => ?_
      · obtain ⟨ol, hol, hcl, nl, hdl⟩ := hl
        obtain ⟨ocls, odict, odata, oslots⟩ := ol
        simp only at hcl hdl
        subst hcl; subst hdl
        have hol' : (s.heap.push (begun led)).get? l = some { cls := .type "list", dict := odict, data := .seq items nl, slots := oslots } := Heap.get?_push_of_some _ hol
        have hsls := PySem.F.sub_list_set
        have hslf := PySem.F.sub_list_frozenset
        have hne : (Value.type "list" == Value.type "dict") = false := by decide
        have hl1 : (s.heap.push (begun led)).IsList l items := ⟨_, hol', rfl, nl, rfl⟩
        unfold Builtin.«set.__init__» noKeywords Builtin.Frozenset.updateFrom
        generalize hPI : pyIter = PI
        wp_walk
        subst hPI
        refine wpAny_pyIter_list hl1 (wpAny_bind (wpAny_runValue ?_))
        have hlS : l < s.heap.objs.size := Heap.lt_size hol
        have hh3 : A.in1.in1.in1.handled = none := by simp [hh]
        have hz1 : (s.heap.push (begun led)).objs.size = s.heap.objs.size + 1 := Heap.size_push ..
        have hneI : l ≠ (s.heap.push (begun led)).objs.size := by
          rw [hz1]
          exact Nat.ne_of_lt (Nat.lt_succ_of_lt hlS)
        have hD : s.heap.objs.size ∉ [(s.heap.push (begun led)).objs.size, l] := fun m => by
          rw [hz1] at m
          rcases List.mem_cons.mp m with m | m
          · exact Nat.ne_of_lt (Nat.lt_succ_self _) m
          · exact Nat.ne_of_gt hlS (List.mem_singleton.mp m)
        have hval : ∀ (i : Nat) (v : Value), items[i]? = some v → ∃ x t, xs[i]? = some x ∧ v = .str x t := fun i v hv => by
          obtain ⟨t, e⟩ := SS.strs_at hi i v (by rw [Array.getElem?_toList]; exact hv)
          have hi' : i < xs.length := by
            rw [← hsz]
            exact (Array.getElem?_eq_some_iff.mp hv).1
          refine ⟨xs[i], t, List.getElem?_eq_getElem hi', ?_⟩
          rw [e, List.getD_eq_getElem?_getD, List.getElem?_eq_getElem hi']
          rfl
        refine put_all ((Walks.list hh3 _ l hneI items).toS) s.heap.objs.size hD xs nd hsz.symm (by rw [hsz]; exact hb) hval (items.size - 0) 0 _ _ (by omega) (Nat.zero_le _) ⟨⟨_, Heap.get?_push_size _ rfl, rfl, rfl⟩, (hl1.push _)⟩ ?hS0 ?hR
        case hS0 =>
          have hget : ((s.heap.push (begun led)).push { cls := .type "list_iterator", data := .fields #[.ref l, .int 0 0] }).get? s.heap.objs.size = some (begun led) := Heap.get?_push_of_some _ hS
          exact SetOf_congr ((setObjOf_fresh (knd := PySem.strKind prog w) led).setOf hget (by unfold scanBound; omega)) (fun _ => rfl) rfl
        case hR =>
          intro s' hm hS'
          obtain ⟨h', g', d', tk', os'⟩ := s'
          have eg : g' = s.gens := hm.gens
          have ed : d' = s.drawn := hm.drawn
          have eo : os' = s.os := hm.os
          subst eg; subst ed; subst eo
          show wpAny _ _ _ _ _ _
          refine wpAny_pure ?_
          show wpAny _ _ (ret Value.none) _ _ _
          rw [hsz] at hS'
          refine wpAny_pure ⟨rfl, h', tk', rfl, hS', fun b o hb e => ?_⟩
          refine hm.heap b o (fun m => ?_) (Heap.get?_push_of_some _ (Heap.get?_push_of_some _ e))
          rcases List.mem_cons.mp m with m | m
          · exact Nat.ne_of_lt hb m
          · have := List.mem_singleton.mp m
            rw [hz1] at this
            exact Nat.ne_of_lt (Nat.lt_succ_of_lt hb) this
      · cases r₂ with
        | error e => exact hr₂
        | ok fl₂ =>
          cases fl₂ with
          | ret r =>
            obtain ⟨rfl, h', tk, rfl, hS', hk'⟩ := hr₂
            repeat (any_goals (first | assumption | wp_step))
            exact h _ _ hS' hk'
          | _ => exact hr₂.elim
    | _ => exact hr.elim
end
def tLenSetN (K : PySem.W.Frag) (ta : TE) : TE := fun σ H Q => ta σ H fun x H1 => ∃ (l : Addr) (xs : List Str), x = .ref l ∧ SqL K H1 l (xs.map V.str) ∧ xs.Nodup ∧ xs.length ≤ 4000 ∧ Q (.int xs.length) H1
theorem pe_lenSetN {X : Cx} {K : PySem.W.Frag} {a : Expr} {ta : TE} {p p2 q pos : Pos} (hc : X.calm = true) (hg : Gl X "len") (hm : X.mg "len" = none) (hg2 : Gl X "set") (hm2 : X.mg "set" = none) (ha : PE X a ta) (hK : X.K = K := by rfl)
    (na : starEach [a] X.env = (false, eval a X.env) :: starEach [] X.env := by rfl) : PE X (.Call (.Name "len" p) [.Call (.Name "set" p2) [a] [] q] [] pos) (tLenSetN K ta) := by
  subst hK
  refine ⟨fun pins s σ H Q I h => ?_⟩
  refine Call_ (ld_blt I hg hm boot_len ?_)
  refine callWith_builtin1 (args_cons ?_ rfl) rfl rfl
  refine Call_ (ld_blt I hg2 hm2 boot_set ?_)
  refine callWith_type1 (args_cons (thn (ha.run pins s σ H _ I h) fun v s1 ⟨x, H1, I1, r1, q1⟩ => args_nil ?_) na) na rfl
  obtain ⟨l, xs, rfl, hq, nd, hz, q1⟩ := q1
  cases r1
  obtain ⟨its, r, pl, _⟩ := I1.list hq
  refine set_of_list (I1.ok.hd hc) pl.isList (by simpa using strsAre_of r) nd (by unfold scanBound; omega) fun h' tk hS hk => args_nil ?_
  obtain ⟨o, es, ep, t, ho, hex, hd, _, _, _, hf, hn⟩ := hS
  have I2 : Inv X pins σ H1 { s1 with heap := h', toks := tk } := I1.kept fun b o e => hk b o (Heap.lt_size e) e
  exact call_len_set ho hex hd hf (by rw [hn]; omega) ⟨.int xs.length, H1, I2.tok _, ⟨_, by rw [hn]⟩, q1⟩
end Rz

set_option Elab.async false
set_option linter.all false
set_option maxRecDepth 100000
set_option maxHeartbeats 4000000
/-! t == (); a comprehension over a dict's keys -/
namespace Rq
open PySem PySem.Spec PyProof.Rows L2 Rb Rx Rg Rs
/-! ### t == (), t != () -/
def rEqT0 (K : PySem.W.Frag) : R2 := fun x y H Q => ∃ (a b : Addr) (xs : List V), x = .ref a ∧ y = .ref b ∧ SqT K H a xs ∧ SqT K H b [] ∧ Q (.bl (decide (xs = []))) H
def rNeT0 (K : PySem.W.Frag) : R2 := fun x y H Q => ∃ (a b : Addr) (xs : List V), x = .ref a ∧ y = .ref b ∧ SqT K H a xs ∧ SqT K H b [] ∧ Q (.bl (!decide (xs = []))) H
theorem size_dec {xs : List V} {its its2 : List Value} (r : Vals xs its) (r2 : Vals [] its2) : (its.toArray.size == its2.toArray.size) = decide (xs = []) := by
  cases r2
  rw [List.size_toArray, List.size_toArray, ← r.length]
  cases xs with
  | nil => rfl
  | cons _ _ => simp
theorem op_eqT0 {X : Cx} {K : PySem.W.Frag} (hu : X.A.units + 64 < cLine) (h : X.K = K := by rfl) : OpR X (compareOp .Eq) (rEqT0 K) := by
  subst h
  intro pins s σ H x y v u Q I rx ry h
  obtain ⟨a, b, xs, rfl, rfl, ha, hb, q⟩ := h
  cases rx
  cases ry
  obtain ⟨its, r, p1, _⟩ := I.tuple ha
  obtain ⟨its2, r2, p2, _⟩ := I.tuple hb
  have p1' : s.heap.IsTuple a its.toArray := p1
  have p2' : s.heap.IsTuple b its2.toArray := p2
  refine SeqAt.RcAt.tuples (e := fun _ => true) p1' p2' (by omega) (fun j h1 h2 => by cases r2; exact absurd h2 (Nat.not_lt_zero _)) _ _ _ _ ?_
  rw [List.all_eq_true.mpr (fun _ _ => rfl), size_dec r r2, Bool.true_and]
  exact ⟨.bl _, H, I, rfl, q⟩
theorem op_neT0 {X : Cx} {K : PySem.W.Frag} (hu : X.A.units + 64 < cLine) (h : X.K = K := by rfl) : OpR X (compareOp .NotEq) (rNeT0 K) := by
  subst h
  intro pins s σ H x y v u Q I rx ry h
  obtain ⟨a, b, xs, rfl, rfl, ha, hb, q⟩ := h
  cases rx
  cases ry
  obtain ⟨its, r, p1, _⟩ := I.tuple ha
  obtain ⟨its2, r2, p2, _⟩ := I.tuple hb
  have p1' : s.heap.IsTuple a its.toArray := p1
  have p2' : s.heap.IsTuple b its2.toArray := p2
  refine SeqAt.RcNeAt.tuples (e := fun _ => true) p1' p2' (by omega) (fun j h1 h2 => by cases r2; exact absurd h2 (Nat.not_lt_zero _)) _ _ _ _ ?_
  rw [List.all_eq_true.mpr (fun _ _ => rfl), size_dec r r2, Bool.true_and]
  exact ⟨.bl _, H, I, rfl, q⟩
/-- a comprehension with a test over the keys of a locked dict, that changes nothing -/
theorem _root_.Rb.Cmp.keysF {d : Addr} {o : Obj} {kvs : List (Key × V)} {j : Nat} {tt : TT} {te : TE} {vs : List Nat} {σ : L2.St} {H1 : Hp} {Q : VK} (p : Key × V → Bool) (f : Key × V → V) (hH : H1 d = some (.frz o (.dK kvs))) (hz : kvs.length ≤ 100000) (hw : ∀ x, wipe ((wipe σ vs).set j (some x)) vs = wipe σ vs)
    (ht : ∀ kv H2 (R : Bool → Hp → Prop), kv ∈ kvs → Same H1 H2 → (∀ H3, Same H2 H3 → R (p kv) H3) → tt ((wipe σ vs).set j (some (kV kv.1))) H2 R)
    (he : ∀ kv H2 (R : VK), kv ∈ kvs → p kv = true → Same H1 H2 → (∀ H3, Same H2 H3 → R (f kv) H3) → te ((wipe σ vs).set j (some (kV kv.1))) H2 R)
    (hd : ∀ l H2, H1 l = none → Same H1 H2 → H2 l = some (.lst ((kvs.filter p).map f)) → Q (.ref l) H2) : Cmp (Itk d o kvs) (gName j) tt te vs σ H1 Q := fun D nD => by
  refine lc_it (walk_keys (o := o) (d := d) (kvs := kvs)) (fun i H => ∃ acc, acc.length ≤ i ∧ Same H1 H ∧ H D = some (.lst acc) ∧ acc = ((kvs.take i).filter p).map f) ⟨[], Nat.zero_le _, same_new nD, upd_same, by simp⟩ (fun i H _ ⟨_, _, s, _⟩ => s _ _ hH) ?_ ?_
  · rintro i x H H' hi ⟨acc, ha, s, h, ea⟩ ⟨rfl, k, v, hkv, rfl⟩
    have hm : (k, v) ∈ kvs := List.mem_of_getElem? hkv
    refine ⟨hw _, ht (k, v) _ _ hm s fun H3 s3 => ?_⟩
    cases hp : p (k, v) with
    | true =>
      rw [if_pos rfl]
      refine he (k, v) H3 _ hm hp (s.trans s3) fun H4 s4 => ⟨acc, s4 _ _ (s3 _ _ h), Nat.lt_of_le_of_lt (Nat.le_trans ha (Nat.le_of_lt hi)) (Nat.lt_of_le_of_lt hz (by decide)), acc ++ [f (k, v)], by rw [List.length_append]; exact Nat.succ_le_succ ha, Same.off ((s.trans s3).trans s4) nD Off.upd, upd_same, ?_⟩
      rw [ea, take_snoc hkv, List.filter_append, List.map_append, List.filter_cons, if_pos hp]
      rfl
    | false =>
      rw [if_neg Bool.false_ne_true]
      refine ⟨acc, Nat.le_succ_of_le ha, s.trans s3, s3 _ _ h, ?_⟩
      rw [ea, take_snoc hkv, List.filter_append, List.map_append, List.filter_cons, if_neg (by rw [hp]; decide)]
      simp
  · rintro H ⟨acc, _, s, h, ea⟩
    rw [List.take_length] at ea
    exact hd D H nD s (ea ▸ h)
end Rq

set_option Elab.async false
set_option linter.all false
set_option pp.deepTerms true
set_option pp.maxSteps 100000
set_option format.indent 1
set_option format.width 260
set_option maxRecDepth 100000
set_option maxHeartbeats 4000000
set_option exponentiation.threshold 2000

namespace K10
open PySem PySem.Spec PyProof.Rows L2 Rb Rx SX Tx Rg Rt Rs
def topS (i : Nat) : Stmt := PySem.Challenge.pw_roomslaid_k10_whole_leaves_apart.main.body.getD i (.Pass ⟨0, 0, 0, 0⟩)
abbrev s_wall : Stmt := topS 0
abbrev s_NoShapes_init : Stmt := inClass (topS 3) 0
abbrev s_UnknownShape_init : Stmt := inClass (topS 4) 0
abbrev s_NamedTwice_init : Stmt := inClass (topS 5) 0
abbrev s_TooMuch_init : Stmt := inClass (topS 6) 0
abbrev s_are_signs : Stmt := topS 13
abbrev s_is_name : Stmt := topS 14
abbrev s_number_in : Stmt := topS 15
abbrev s_joined : Stmt := topS 17
abbrev s_Kind_word : Stmt := inClass (topS 18) 0
abbrev s_Kind_size : Stmt := inClass (topS 18) 1
abbrev s_Kind_depth : Stmt := inClass (topS 18) 2
abbrev s_Kind_text : Stmt := inClass (topS 18) 3
abbrev s_Kind_step_to : Stmt := inClass (topS 18) 4
abbrev s_Kind_units : Stmt := inClass (topS 18) 5
abbrev s_Kind_spread : Stmt := inClass (topS 18) 6
abbrev s_Num_init : Stmt := inClass (topS 19) 0
abbrev s_Num_word : Stmt := inClass (topS 19) 1
abbrev s_Num_size : Stmt := inClass (topS 19) 2
abbrev s_Num_text : Stmt := inClass (topS 19) 3
abbrev s_Num_units : Stmt := inClass (topS 19) 4
abbrev s_Num_spread : Stmt := inClass (topS 19) 5
abbrev s_Nested_init : Stmt := inClass (topS 20) 0
abbrev s_Nested_word : Stmt := inClass (topS 20) 1
abbrev s_Nested_size : Stmt := inClass (topS 20) 2
abbrev s_Nested_depth : Stmt := inClass (topS 20) 3
abbrev s_Nested_text : Stmt := inClass (topS 20) 4
abbrev s_Nested_step_to : Stmt := inClass (topS 20) 5
abbrev s_Nested_units : Stmt := inClass (topS 20) 6
abbrev s_Nested_spread : Stmt := inClass (topS 20) 7
abbrev s_Many_init : Stmt := inClass (topS 21) 0
abbrev s_Many_word : Stmt := inClass (topS 21) 1
abbrev s_Many_size : Stmt := inClass (topS 21) 2
abbrev s_Many_depth : Stmt := inClass (topS 21) 3
abbrev s_Many_text : Stmt := inClass (topS 21) 4
abbrev s_Many_step_to : Stmt := inClass (topS 21) 5
abbrev s_Many_units : Stmt := inClass (topS 21) 6
abbrev s_Many_spread : Stmt := inClass (topS 21) 7
abbrev s_Pick_init : Stmt := inClass (topS 22) 0
abbrev s_Pick_word : Stmt := inClass (topS 22) 1
abbrev s_Pick_size : Stmt := inClass (topS 22) 2
abbrev s_Pick_chosen_size : Stmt := inClass (topS 22) 3
abbrev s_Pick_depth : Stmt := inClass (topS 22) 4
abbrev s_Pick_text : Stmt := inClass (topS 22) 5
abbrev s_Pick_step_to : Stmt := inClass (topS 22) 6
abbrev s_Pick_units : Stmt := inClass (topS 22) 7
abbrev s_Pick_spread : Stmt := inClass (topS 22) 8
abbrev s_Shape_init : Stmt := inClass (topS 23) 0
abbrev s_Shape_size : Stmt := inClass (topS 23) 1
abbrev s_Shape_depth : Stmt := inClass (topS 23) 2
abbrev s_Shape_units : Stmt := inClass (topS 23) 3
abbrev s_Shape_leaves : Stmt := inClass (topS 23) 4
abbrev s_Shape_kind_of : Stmt := inClass (topS 23) 5
abbrev s_Shapes_init : Stmt := inClass (topS 24) 0
abbrev s_Shapes_shape_of : Stmt := inClass (topS 24) 1
abbrev s_Shapes_main : Stmt := inClass (topS 24) 2
abbrev s_Shapes_text : Stmt := inClass (topS 24) 3
abbrev s_is_form : Stmt := topS 31
abbrev s_Draft_init : Stmt := inClass (topS 32) 0
abbrev s_Draft_end_shape : Stmt := inClass (topS 32) 1
abbrev s_Draft_take_shape : Stmt := inClass (topS 32) 2
abbrev s_Draft_kind_in : Stmt := inClass (topS 32) 3
abbrev s_Draft_take_field : Stmt := inClass (topS 32) 4
abbrev s_read_shapes : Stmt := topS 33
abbrev s_law_cell : Stmt := topS 35
abbrev s_law_box : Stmt := topS 36
abbrev s_law_take : Stmt := topS 37
abbrev s_law_names : Stmt := topS 38
abbrev s_law_size : Stmt := topS 39
abbrev s_law_units : Stmt := topS 40
abbrev s_law_joined : Stmt := topS 41
abbrev s_law_depth : Stmt := topS 42
abbrev s_law_kind : Stmt := topS 43
abbrev s_law_fits : Stmt := topS 44
abbrev s_law_shapes : Stmt := topS 45
abbrev s_law_kind_text : Stmt := topS 46
abbrev s_law_text : Stmt := topS 47
abbrev s_law_parted : Stmt := topS 48
abbrev s_law_meet : Stmt := topS 49
abbrev s_law_right : Stmt := topS 50
abbrev s_law : Stmt := topS 51
theorem sc_wall : FnScope ["k"] ["k"] (defScope s_wall) := ⟨rfl, rfl, rfl, by decide +kernel, rfl, by decide +kernel, by decide +kernel⟩
theorem sc_NoShapes_init : FnScope ["self", "line"] ["self", "line"] (defScope s_NoShapes_init) := ⟨rfl, rfl, rfl, by decide +kernel, rfl, by decide +kernel, by decide +kernel⟩
theorem sc_UnknownShape_init : FnScope ["self", "line", "name"] ["self", "line", "name"] (defScope s_UnknownShape_init) := ⟨rfl, rfl, rfl, by decide +kernel, rfl, by decide +kernel, by decide +kernel⟩
theorem sc_NamedTwice_init : FnScope ["self", "line", "name"] ["self", "line", "name"] (defScope s_NamedTwice_init) := ⟨rfl, rfl, rfl, by decide +kernel, rfl, by decide +kernel, by decide +kernel⟩
theorem sc_TooMuch_init : FnScope ["self", "line"] ["self", "line"] (defScope s_TooMuch_init) := ⟨rfl, rfl, rfl, by decide +kernel, rfl, by decide +kernel, by decide +kernel⟩
theorem sc_are_signs : FnScope ["text", "signs", "sign"] ["text", "signs"] (defScope s_are_signs) := ⟨rfl, rfl, rfl, by decide +kernel, rfl, by decide +kernel, by decide +kernel⟩
theorem sc_is_name : FnScope ["thing"] ["thing"] (defScope s_is_name) := ⟨rfl, rfl, rfl, by decide +kernel, rfl, by decide +kernel, by decide +kernel⟩
theorem sc_number_in : FnScope ["text", "low", "high"] ["text", "low", "high"] (defScope s_number_in) := ⟨rfl, rfl, rfl, by decide +kernel, rfl, by decide +kernel, by decide +kernel⟩
theorem sc_joined : FnScope ["path", "step"] ["path", "step"] (defScope s_joined) := ⟨rfl, rfl, rfl, by decide +kernel, rfl, by decide +kernel, by decide +kernel⟩
theorem sc_Kind_word : FnScope ["self"] ["self"] (defScope s_Kind_word) := ⟨rfl, rfl, rfl, by decide +kernel, rfl, by decide +kernel, by decide +kernel⟩
theorem sc_Kind_size : FnScope ["self"] ["self"] (defScope s_Kind_size) := ⟨rfl, rfl, rfl, by decide +kernel, rfl, by decide +kernel, by decide +kernel⟩
theorem sc_Kind_depth : FnScope ["self"] ["self"] (defScope s_Kind_depth) := ⟨rfl, rfl, rfl, by decide +kernel, rfl, by decide +kernel, by decide +kernel⟩
theorem sc_Kind_text : FnScope ["self"] ["self"] (defScope s_Kind_text) := ⟨rfl, rfl, rfl, by decide +kernel, rfl, by decide +kernel, by decide +kernel⟩
theorem sc_Kind_step_to : FnScope ["self", "step"] ["self", "step"] (defScope s_Kind_step_to) := ⟨rfl, rfl, rfl, by decide +kernel, rfl, by decide +kernel, by decide +kernel⟩
theorem sc_Kind_units : FnScope ["self", "path"] ["self", "path"] (defScope s_Kind_units) := ⟨rfl, rfl, rfl, by decide +kernel, rfl, by decide +kernel, by decide +kernel⟩
theorem sc_Kind_spread : FnScope ["self", "path", "unit", "offset", "holds"] ["self", "path", "unit", "offset", "holds"] (defScope s_Kind_spread) := ⟨rfl, rfl, rfl, by decide +kernel, rfl, by decide +kernel, by decide +kernel⟩
theorem sc_Num_init : FnScope ["self", "width"] ["self", "width"] (defScope s_Num_init) := ⟨rfl, rfl, rfl, by decide +kernel, rfl, by decide +kernel, by decide +kernel⟩
theorem sc_Num_word : FnScope ["self"] ["self"] (defScope s_Num_word) := ⟨rfl, rfl, rfl, by decide +kernel, rfl, by decide +kernel, by decide +kernel⟩
theorem sc_Num_size : FnScope ["self"] ["self"] (defScope s_Num_size) := ⟨rfl, rfl, rfl, by decide +kernel, rfl, by decide +kernel, by decide +kernel⟩
theorem sc_Num_text : FnScope ["self"] ["self"] (defScope s_Num_text) := ⟨rfl, rfl, rfl, by decide +kernel, rfl, by decide +kernel, by decide +kernel⟩
theorem sc_Num_units : FnScope ["self", "path"] ["self", "path"] (defScope s_Num_units) := ⟨rfl, rfl, rfl, by decide +kernel, rfl, by decide +kernel, by decide +kernel⟩
theorem sc_Num_spread : FnScope ["self", "path", "unit", "offset", "holds"] ["self", "path", "unit", "offset", "holds"] (defScope s_Num_spread) := ⟨rfl, rfl, rfl, by decide +kernel, rfl, by decide +kernel, by decide +kernel⟩
theorem sc_Nested_init : FnScope ["self", "shape"] ["self", "shape"] (defScope s_Nested_init) := ⟨rfl, rfl, rfl, by decide +kernel, rfl, by decide +kernel, by decide +kernel⟩
theorem sc_Nested_word : FnScope ["self"] ["self"] (defScope s_Nested_word) := ⟨rfl, rfl, rfl, by decide +kernel, rfl, by decide +kernel, by decide +kernel⟩
theorem sc_Nested_size : FnScope ["self"] ["self"] (defScope s_Nested_size) := ⟨rfl, rfl, rfl, by decide +kernel, rfl, by decide +kernel, by decide +kernel⟩
theorem sc_Nested_depth : FnScope ["self"] ["self"] (defScope s_Nested_depth) := ⟨rfl, rfl, rfl, by decide +kernel, rfl, by decide +kernel, by decide +kernel⟩
theorem sc_Nested_text : FnScope ["self"] ["self"] (defScope s_Nested_text) := ⟨rfl, rfl, rfl, by decide +kernel, rfl, by decide +kernel, by decide +kernel⟩
theorem sc_Nested_step_to : FnScope ["self", "step"] ["self", "step"] (defScope s_Nested_step_to) := ⟨rfl, rfl, rfl, by decide +kernel, rfl, by decide +kernel, by decide +kernel⟩
theorem sc_Nested_units : FnScope ["self", "path", "found", "name", "kind"] ["self", "path"] (defScope s_Nested_units) := ⟨rfl, rfl, rfl, by decide +kernel, rfl, by decide +kernel, by decide +kernel⟩
theorem sc_Nested_spread : FnScope ["self", "path", "unit", "offset", "holds", "found", "name", "kind"] ["self", "path", "unit", "offset", "holds"] (defScope s_Nested_spread) := ⟨rfl, rfl, rfl, by decide +kernel, rfl, by decide +kernel, by decide +kernel⟩
theorem sc_Many_init : FnScope ["self", "count", "kind"] ["self", "count", "kind"] (defScope s_Many_init) := ⟨rfl, rfl, rfl, by decide +kernel, rfl, by decide +kernel, by decide +kernel⟩
theorem sc_Many_word : FnScope ["self"] ["self"] (defScope s_Many_word) := ⟨rfl, rfl, rfl, by decide +kernel, rfl, by decide +kernel, by decide +kernel⟩
theorem sc_Many_size : FnScope ["self"] ["self"] (defScope s_Many_size) := ⟨rfl, rfl, rfl, by decide +kernel, rfl, by decide +kernel, by decide +kernel⟩
theorem sc_Many_depth : FnScope ["self"] ["self"] (defScope s_Many_depth) := ⟨rfl, rfl, rfl, by decide +kernel, rfl, by decide +kernel, by decide +kernel⟩
theorem sc_Many_text : FnScope ["self"] ["self"] (defScope s_Many_text) := ⟨rfl, rfl, rfl, by decide +kernel, rfl, by decide +kernel, by decide +kernel⟩
theorem sc_Many_step_to : FnScope ["self", "step"] ["self", "step"] (defScope s_Many_step_to) := ⟨rfl, rfl, rfl, by decide +kernel, rfl, by decide +kernel, by decide +kernel⟩
theorem sc_Many_units : FnScope ["self", "path", "found", "number"] ["self", "path"] (defScope s_Many_units) := ⟨rfl, rfl, rfl, by decide +kernel, rfl, by decide +kernel, by decide +kernel⟩
theorem sc_Many_spread : FnScope ["self", "path", "unit", "offset", "holds", "found", "number", "at"] ["self", "path", "unit", "offset", "holds"] (defScope s_Many_spread) := ⟨rfl, rfl, rfl, by decide +kernel, rfl, by decide +kernel, by decide +kernel⟩
theorem sc_Pick_init : FnScope ["self", "shapes"] ["self", "shapes"] (defScope s_Pick_init) := ⟨rfl, rfl, rfl, by decide +kernel, rfl, by decide +kernel, by decide +kernel⟩
theorem sc_Pick_word : FnScope ["self"] ["self"] (defScope s_Pick_word) := ⟨rfl, rfl, rfl, by decide +kernel, rfl, by decide +kernel, by decide +kernel⟩
theorem sc_Pick_size : FnScope ["self"] ["self"] (defScope s_Pick_size) := ⟨rfl, rfl, rfl, by decide +kernel, rfl, by decide +kernel, by decide +kernel⟩
theorem sc_Pick_chosen_size : FnScope ["self", "shape"] ["self"] (defScope s_Pick_chosen_size) := ⟨rfl, rfl, rfl, by decide +kernel, rfl, by decide +kernel, by decide +kernel⟩
theorem sc_Pick_depth : FnScope ["self", "shape"] ["self"] (defScope s_Pick_depth) := ⟨rfl, rfl, rfl, by decide +kernel, rfl, by decide +kernel, by decide +kernel⟩
theorem sc_Pick_text : FnScope ["self", "shape"] ["self"] (defScope s_Pick_text) := ⟨rfl, rfl, rfl, by decide +kernel, rfl, by decide +kernel, by decide +kernel⟩
theorem sc_Pick_step_to : FnScope ["self", "step"] ["self", "step"] (defScope s_Pick_step_to) := ⟨rfl, rfl, rfl, by decide +kernel, rfl, by decide +kernel, by decide +kernel⟩
theorem sc_Pick_units : FnScope ["self", "path"] ["self", "path"] (defScope s_Pick_units) := ⟨rfl, rfl, rfl, by decide +kernel, rfl, by decide +kernel, by decide +kernel⟩
theorem sc_Pick_spread : FnScope ["self", "path", "unit", "offset", "holds", "found", "begin", "number", "shape", "within"] ["self", "path", "unit", "offset", "holds"] (defScope s_Pick_spread) := ⟨rfl, rfl, rfl, by decide +kernel, rfl, by decide +kernel, by decide +kernel⟩
theorem sc_Shape_init : FnScope ["self", "name", "fields"] ["self", "name", "fields"] (defScope s_Shape_init) := ⟨rfl, rfl, rfl, by decide +kernel, rfl, by decide +kernel, by decide +kernel⟩
theorem sc_Shape_size : FnScope ["self", "name", "kind"] ["self"] (defScope s_Shape_size) := ⟨rfl, rfl, rfl, by decide +kernel, rfl, by decide +kernel, by decide +kernel⟩
theorem sc_Shape_depth : FnScope ["self", "name", "kind"] ["self"] (defScope s_Shape_depth) := ⟨rfl, rfl, rfl, by decide +kernel, rfl, by decide +kernel, by decide +kernel⟩
theorem sc_Shape_units : FnScope ["self"] ["self"] (defScope s_Shape_units) := ⟨rfl, rfl, rfl, by decide +kernel, rfl, by decide +kernel, by decide +kernel⟩
theorem sc_Shape_leaves : FnScope ["self"] ["self"] (defScope s_Shape_leaves) := ⟨rfl, rfl, rfl, by decide +kernel, rfl, by decide +kernel, by decide +kernel⟩
theorem sc_Shape_kind_of : FnScope ["self", "path"] ["self", "path"] (defScope s_Shape_kind_of) := ⟨rfl, rfl, rfl, by decide +kernel, rfl, by decide +kernel, by decide +kernel⟩
theorem sc_Shapes_init : FnScope ["self", "shapes"] ["self", "shapes"] (defScope s_Shapes_init) := ⟨rfl, rfl, rfl, by decide +kernel, rfl, by decide +kernel, by decide +kernel⟩
theorem sc_Shapes_shape_of : FnScope ["self", "name"] ["self", "name"] (defScope s_Shapes_shape_of) := ⟨rfl, rfl, rfl, by decide +kernel, rfl, by decide +kernel, by decide +kernel⟩
theorem sc_Shapes_main : FnScope ["self"] ["self"] (defScope s_Shapes_main) := ⟨rfl, rfl, rfl, by decide +kernel, rfl, by decide +kernel, by decide +kernel⟩
theorem sc_Shapes_text : FnScope ["self", "lines", "shape", "name", "kind"] ["self"] (defScope s_Shapes_text) := ⟨rfl, rfl, rfl, by decide +kernel, rfl, by decide +kernel, by decide +kernel⟩
theorem sc_is_form : FnScope ["words", "rest", "word"] ["words"] (defScope s_is_form) := ⟨rfl, rfl, rfl, by decide +kernel, rfl, by decide +kernel, by decide +kernel⟩
theorem sc_Draft_init : FnScope ["self"] ["self"] (defScope s_Draft_init) := ⟨rfl, rfl, rfl, by decide +kernel, rfl, by decide +kernel, by decide +kernel⟩
theorem sc_Draft_end_shape : FnScope ["self"] ["self"] (defScope s_Draft_end_shape) := ⟨rfl, rfl, rfl, by decide +kernel, rfl, by decide +kernel, by decide +kernel⟩
theorem sc_Draft_take_shape : FnScope ["self", "line", "name"] ["self", "line", "name"] (defScope s_Draft_take_shape) := ⟨rfl, rfl, rfl, by decide +kernel, rfl, by decide +kernel, by decide +kernel⟩
theorem sc_Draft_kind_in : FnScope ["self", "line", "words", "names", "at", "name"] ["self", "line", "words"] (defScope s_Draft_kind_in) := ⟨rfl, rfl, rfl, by decide +kernel, rfl, by decide +kernel, by decide +kernel⟩
theorem sc_Draft_take_field : FnScope ["self", "line", "words", "name", "kind", "shape"] ["self", "line", "words"] (defScope s_Draft_take_field) := ⟨rfl, rfl, rfl, by decide +kernel, rfl, by decide +kernel, by decide +kernel⟩
theorem sc_read_shapes : FnScope ["text", "draft", "lines", "line", "row", "words"] ["text"] (defScope s_read_shapes) := ⟨rfl, rfl, rfl, by decide +kernel, rfl, by decide +kernel, by decide +kernel⟩
theorem sc_law_cell : FnScope ["_law_script", "_law_k"] ["_law_script", "_law_k"] (defScope s_law_cell) := ⟨rfl, rfl, rfl, by decide +kernel, rfl, by decide +kernel, by decide +kernel⟩
theorem sc_law_box : FnScope ["_law_cell_here"] ["_law_cell_here"] (defScope s_law_box) := ⟨rfl, rfl, rfl, by decide +kernel, rfl, by decide +kernel, by decide +kernel⟩
theorem sc_law_take : FnScope ["_law_box_here", "_law_many", "_law_digit", "_law_number"] ["_law_box_here", "_law_many"] (defScope s_law_take) := ⟨rfl, rfl, rfl, by decide +kernel, rfl, by decide +kernel, by decide +kernel⟩
theorem sc_law_names : FnScope ["_law_box_here", "_law_way", "_law_at", "_law_words", "_law_k", "_law_tail"] ["_law_box_here"] (defScope s_law_names) := ⟨rfl, rfl, rfl, by decide +kernel, rfl, by decide +kernel, by decide +kernel⟩
theorem sc_law_size : FnScope ["_law_kind_here", "_law_shapes_here", "_law_at", "_law_name", "_law_inner"] ["_law_kind_here", "_law_shapes_here"] (defScope s_law_size) := ⟨rfl, rfl, rfl, by decide +kernel, rfl, by decide +kernel, by decide +kernel⟩
theorem sc_law_units : FnScope ["_law_kind_here", "_law_shapes_here", "_law_path", "_law_found", "_law_number", "_law_name", "_law_inner"] ["_law_kind_here", "_law_shapes_here", "_law_path"] (defScope s_law_units) := ⟨rfl, rfl, rfl, by decide +kernel, rfl, by decide +kernel, by decide +kernel⟩
theorem sc_law_joined : FnScope ["_law_path", "_law_step"] ["_law_path", "_law_step"] (defScope s_law_joined) := ⟨rfl, rfl, rfl, by decide +kernel, rfl, by decide +kernel, by decide +kernel⟩
theorem sc_law_depth : FnScope ["_law_kind_here", "_law_shapes_here", "_law_at", "_law_name", "_law_inner"] ["_law_kind_here", "_law_shapes_here"] (defScope s_law_depth) := ⟨rfl, rfl, rfl, by decide +kernel, rfl, by decide +kernel, by decide +kernel⟩
theorem sc_law_kind : FnScope ["_law_box_here", "_law_known", "_law_way", "_law_width", "_law_at", "_law_k"] ["_law_box_here", "_law_known"] (defScope s_law_kind) := ⟨rfl, rfl, rfl, by decide +kernel, rfl, by decide +kernel, by decide +kernel⟩
theorem sc_law_fits : FnScope ["_law_shapes_here", "_law_main"] ["_law_shapes_here"] (defScope s_law_fits) := ⟨rfl, rfl, rfl, by decide +kernel, rfl, by decide +kernel, by decide +kernel⟩
theorem sc_law_shapes : FnScope ["_law_box_here", "_law_most", "_law_names_here", "_law_turn", "_law_shapes_here", "_law_k", "_law_fields", "_law_j", "_law_field"] ["_law_box_here", "_law_most"] (defScope s_law_shapes) := ⟨rfl, rfl, rfl, by decide +kernel, rfl, by decide +kernel, by decide +kernel⟩
theorem sc_law_kind_text : FnScope ["_law_kind_here", "_law_shapes_here", "_law_at"] ["_law_kind_here", "_law_shapes_here"] (defScope s_law_kind_text) := ⟨rfl, rfl, rfl, by decide +kernel, rfl, by decide +kernel, by decide +kernel⟩
theorem sc_law_text : FnScope ["_law_shapes_here", "_law_lines", "_law_name", "_law_fields", "_law_field", "_law_kind_here"] ["_law_shapes_here"] (defScope s_law_text) := ⟨rfl, rfl, rfl, by decide +kernel, rfl, by decide +kernel, by decide +kernel⟩
theorem sc_law_parted : FnScope ["_law_one", "_law_other", "_law_path", "_law_number", "_law_pick", "_law_another"] ["_law_one", "_law_other"] (defScope s_law_parted) := ⟨rfl, rfl, rfl, by decide +kernel, rfl, by decide +kernel, by decide +kernel⟩
theorem sc_law_meet : FnScope ["_law_one", "_law_other"] ["_law_one", "_law_other"] (defScope s_law_meet) := ⟨rfl, rfl, rfl, by decide +kernel, rfl, by decide +kernel, by decide +kernel⟩
theorem sc_law_right : FnScope ["_law_shape", "_law_units_here", "_law_path", "_law_width", "_law_sort", "_law_leaves", "_law_at", "_law_leaf", "_law_other", "_law_paths", "_law_nums"] ["_law_shape"] (defScope s_law_right) := ⟨rfl, rfl, rfl, by decide +kernel, rfl, by decide +kernel, by decide +kernel⟩
theorem sc_law : FnScope ["_law_script", "_law_k", "_law_read", "_law_shape"] ["_law_script"] (defScope s_law) := ⟨rfl, rfl, rfl, by decide +kernel, rfl, by decide +kernel, by decide +kernel⟩
local macro_rules | `(tactic| walk_at "rd") => `(tactic| simp only [L2.start, wMix, rRepr, rIsX, rIsXT, gSlAll, rEqS, rNeL, rNeV, rMulS, rEqL, rNotInT, rMax, tMethV, tListVals, tDGet, iEnum, tDIn, tDNotIn, sDPut, cxOf, tSeq, tAsg, tIfS, tTest, tB, tOp, tUn, tVar, tC, tCB, tCons, tNil, tRet, tRetN, tNext, tDrop, tBM, tBM0, tLst_n, tTup_n, tAnd, tOr, tNot, tAndV, tOrV, tNotV, tIf, tChain, tCall, gName, gTup, gCons, gNil, gUnl, gSub, rI, rI0, rU, rIxL, rIxT, rSlL_n, tSl, tPart, tNoPart, rCatR, rAppend_n, rExtend_n, rPop_n, rClear_n, rSetL_n, rInsert, rRemI_n, tMake_n, sFld_n, tFld, tMeth, rIn, tFor_n, tLc_n, iRngL1, iRngL2, iList, iTup, iRev, iZip, rDivmod, rListOf, rTupOf, rLenSeq, rMin2, rMax2, rAll, rAny, rIsi, tNever, tYes, wipe, tAug, ipI, rEq, rNe, tIsN, tNotN, tDNewK_n, tRz, tCallS, tMethX, tMakeX, tXfA, wAs, wOnly, tVeI, tOst, gSlS, iRng3, rSum, rStrI, rIsB, rNotB, rSlT, rIndex, rRep_n, rInt1, tLenSetS, scal_ii, scal_bb, scal_ss, scal_nn, scal_ni, scal_in, scal_ns, scal_sn, scal_is, scal_si, List.map_cons, List.map_nil, List.length_cons, List.length_nil, List.replicate, List.nil_append, List.cons_append, List.append_nil, List.getElem?_cons_zero, List.getElem?_cons_succ, List.set_cons_zero, List.set_cons_succ, List.set_nil, Nat.reduceAdd, Nat.reduceSub, Option.some.injEq, V.int.injEq, V.ref.injEq, V.bl.injEq, V.str.injEq, V.ty.injEq, List.cons.injEq, and_assoc, and_true, true_and, exists_eq_left, exists_eq_left', exists_and_left, exists_and_right, exists_eq, exists_eq', exists_eq_right, exists_eq_right', if_true, if_false, Bool.false_eq_true, Bool.not_true, Bool.not_false, if_pos, Int.toNat_natCast, decide_eq_true_eq, Bool.not_eq_true', decide_eq_false_iff_not, reduceCtorEq, false_and, and_false, exists_false, exists_const, rIxS, C8.rSlX, rJoinS, rSplitS, tBMS, rIndexX, iStr, tDisp, tPairs])
local macro_rules | `(tactic| walk_at "ex") => `(tactic| repeat' (first | assumption | (with_reducible refine Exists.intro _ ?_) | (with_reducible refine And.intro ?_ ?_) | rfl))

def DSt (H : Hp) (a : Addr) : Prop := ∃ r n c : Int, H a = some (.lst [.int r, .int n, .int c])
def spCell (K : PySem.W.Frag) : Sp := fun vs H Q _ => ∃ (a : Addr) (ns : List Int) (k : Int), vs = [.ref a, .int k] ∧ SqL K H a (ns.map V.int) ∧ 0 ≤ k ∧ k ≤ 1000 ∧ ns.length ≤ 63 ∧ ∀ z, Q (.int z) H
def spBegun : Sp := fun vs H Q _ => ∃ (z : Int), vs = [.int z] ∧ ∀ p H1, H p = none → Same H H1 → DSt H1 p → Q (.ref p) H1
def spDraw : Sp := fun vs H Q _ => ∃ (a : Addr) (m : Int), vs = [.ref a, .int m] ∧ DSt H a ∧ 0 < m ∧ m < 2 ^ 200 ∧ ∀ v H1, 0 ≤ v → v < m → Off a H H1 → DSt H1 a → Q (.int v) H1
/-! ### draws from a box -/
theorem DSt.same {H H' : Hp} {a : Addr} (d : DSt H a) (s : Same H H') : DSt H' a := let ⟨r, n, c, h⟩ := d; ⟨r, n, c, s _ _ h⟩
theorem DSt.ne {H : Hp} {a p : Addr} (d : DSt H a) (h : H p = none) : a ≠ p := fun e => by
  subst e
  obtain ⟨r, n, c, d⟩ := d
  rw [h] at d
  cases d
theorem noneD {t p : Addr} {H H' : Hp} (o : Off t H H') (d : DSt H t) (d' : DSt H' t) (h : H' p = none) : H p = none := by
  obtain ⟨r, n, c, d⟩ := d
  obtain ⟨r', n', c', d'⟩ := d'
  exact o.none d h ⟨_, d'⟩
section
variable {P : Program} {w : World} {K : PySem.W.Frag} {mg : Str → Option Value} {base : Heap}
theorem ok_cell {f : Addr} {fd : FuncData} (F : Fun K "_law_cell" "_law_cell" s_law_cell f fd) (z_len : mg "len" = none) : FnOk P w K mg base CX0 1 f fd ["_law_script", "_law_k"] (spCell K) := by
  refine F.ok sc_law_cell (fun vs H Q E h => ?_) (fun cdv A outer s H vs Q E hr h => ?_)
  · obtain ⟨a, ns, k, rfl, _⟩ := h
    rfl
  · obtain ⟨a, ns, k, rfl, hS, hk, hk2, hl, q⟩ := h
    refine ⟨_, (pss_cons (ps_if (pt_cmpR op_lt (pv 1) (pe_callB (call_lenR (K := K)) (by rfl) z_len (by decide +kernel) (pa_cons (pv 0) pa_nil)) (nomark _)) (pss_one (ps_ret (pe_ix (ix_listK (K := K)) (pv 0) (pv 1) (fun _ _ => rfl)))) pss_nil)
      (pss_one (ps_ret (pe_op op_add (pe_op op_mul pe_int (pv 1)) pe_int)))), ?_⟩
    walk_at "rd"
    refine ⟨_, .inl hS, ite2 (fun c => ?_) (fun c => ?_)⟩
    · have hj : k.toNat < ns.length := by rw [List.length_map] at c; omega
      refine ⟨_, hS, V.int ns[k.toNat], at_of (j := k.toNat) (by omega) ?_, q _⟩
      rw [List.getElem?_map, List.getElem?_eq_getElem hj]
      rfl
    · exact ⟨.inl ⟨by decide, by decide⟩, q _⟩
theorem ok_box {f : Addr} {fd : FuncData} (F : Fun K "_law_box" "_law_box" s_law_box f fd) (z_max : mg "max" = none) : FnOk P w K mg base CX0 1 f fd ["_law_cell_here"] spBegun := by
  refine F.ok sc_law_box (fun vs H Q E h => ?_) (fun cdv A outer s H vs Q E hr h => ?_)
  · obtain ⟨z, rfl, _⟩ := h
    rfl
  · obtain ⟨z, rfl, q⟩ := h
    refine ⟨_, (pss_one (ps_ret (pe_lst (pa_cons (pe_callB (call_max2R rfl) (by rfl) z_max (by decide +kernel) (pa_cons pe_int (pa_cons (pe_op op_sub (pv 0) (pe_op op_pow pe_int pe_int)) pa_nil))) (pa_cons (pe_op op_modN (pv 0) pe_int) (pa_cons pe_int pa_nil)))))), ?_⟩
    walk_at "rd"
    exact ⟨⟨by decide, by decide, by decide⟩, by decide, by decide, New.intro fun p H1 np s1 h1 => q p H1 np s1 ⟨_, _, _, h1⟩⟩
theorem ok_take {f : Addr} {fd : FuncData} (F : Fun K "_law_take" "_law_take" s_law_take f fd) : FnOk P w K mg base CX0 1 f fd ["_law_box_here", "_law_many"] spDraw := by
  refine F.ok sc_law_take (fun vs H Q E h => ?_) (fun cdv A outer s H vs Q E hr h => ?_)
  · obtain ⟨a, m, rfl, _⟩ := h
    rfl
  · obtain ⟨a, m, rfl, ⟨r, n, c, h0⟩, hm, hm2, q⟩ := h
    refine ⟨_, (pss_cons (ps_if (pt_cmpR op_gt (pe_ix (ix_listK (K := K)) (pv 0) pe_int (fun _ _ => rfl)) pe_int (nomark _)) (pss_cons (ps_set (i := 2) sc_law_take.nd rfl (by first | exact Or.inl rfl | exact Or.inr rfl) (pe_op op_modN (pe_ix (ix_listK (K := K)) (pv 0) pe_int (fun _ _ => rfl)) (pv 1)))
      (pss_cons (ps_asg (pe_op op_fdivW (pe_ix (ix_listK (K := K)) (pv 0) pe_int (fun _ _ => rfl)) (pv 1)) (pg_sub (pv 0) pe_int set_list))
      (pss_one (ps_ret (pv 2))))) pss_nil)
      (pss_cons (ps_asg (pe_op op_add (pe_ix (ix_listK (K := K)) (pv 0) pe_int (fun _ _ => rfl)) pe_int) (pg_sub (pv 0) pe_int set_list))
      (pss_cons (ps_set (i := 3) sc_law_take.nd rfl (by first | exact Or.inl rfl | exact Or.inr rfl) (pe_op op_modN (pe_op op_mul (pe_op op_add (pe_op op_add (pe_ix (ix_listK (K := K)) (pv 0) pe_int (fun _ _ => rfl)) (pe_op op_mul pe_int (pe_ix (ix_listK (K := K)) (pv 0) pe_int (fun _ _ => rfl)))) pe_int) pe_int) pe_int))
      (pss_cons (ps_set (i := 3) sc_law_take.nd rfl (by first | exact Or.inl rfl | exact Or.inr rfl) (pe_op op_modN (pe_op op_add (pe_op op_add (pe_op op_mulX (pv 3) (pv 3)) (pe_op op_mul pe_int (pe_ix (ix_listK (K := K)) (pv 0) pe_int (fun _ _ => rfl)))) pe_int) pe_int))
      (pss_one (ps_ret (pe_op op_modN (pe_op op_fdivW (pe_op op_modN (pe_op op_mulX (pv 3) (pe_op op_add (pv 3) pe_int)) pe_int) pe_int) (pv 1)))))))), ?_⟩
    walk_at "rd"
    have sq : ∀ {H1 : Hp} {r n c : Int}, H1 a = some (.lst [.int r, .int n, .int c]) → SqL K H1 a [.int r, .int n, .int c] := fun h => seq_of h
    refine ⟨_, sq h0, _, rfl, _, rfl, ite2 (fun d => ?_) (fun d => ?_)⟩
    · refine ⟨_, sq h0, _, rfl, _, rfl, by omega, _, sq h0, _, rfl, _, rfl, wide_div (b := 200) hm (by omega) (by decide) (by decide), _, h0, _, rfl, Upd.intro fun H2 o2 h2 => ?_⟩
      exact q _ _ (Int.fmod_nonneg_of_pos _ hm) (Int.fmod_lt_of_pos _ hm) o2 ⟨_, _, _, h2⟩
    · refine ⟨_, sq h0, _, rfl, _, rfl, _, h0, _, rfl, Upd.intro fun H1 o1 h1 => ?_⟩
      refine ⟨_, sq h1, _, rfl, _, sq h1, _, rfl, _, rfl, .inl ⟨by decide, by decide⟩, _, rfl, .inr ⟨by decide, by decide⟩, by decide, ?_⟩
      have kf : ∀ x : Int, (x.fmod 2147483629).natAbs < 2 ^ 40 := fun x => by
        have := Int.fmod_nonneg_of_pos x (show (0 : Int) < 2147483629 by decide)
        have := Int.fmod_lt_of_pos x (show (0 : Int) < 2147483629 by decide)
        omega
      have kg : ∀ x : Int, (x.fmod 2147483587).natAbs < 2 ^ 40 ∧ (x.fmod 2147483587 + 11).natAbs < 2 ^ 40 := fun x => by
        have := Int.fmod_nonneg_of_pos x (show (0 : Int) < 2147483587 by decide)
        have := Int.fmod_lt_of_pos x (show (0 : Int) < 2147483587 by decide)
        omega
      refine ⟨mulx_ok (a := 40) (b := 40) (kf _) (kf _) (by decide), _, sq h1, _, rfl, _, rfl, .inl ⟨by decide, by decide⟩, by decide, mulx_ok (a := 40) (b := 40) (kg _).1 (kg _).2 (by decide), by decide, ⟨by decide, by decide⟩, by omega, ?_⟩
      exact q _ _ (Int.fmod_nonneg_of_pos _ hm) (Int.fmod_lt_of_pos _ hm) o1 ⟨_, _, _, h1⟩
end

/-! ### words.py: names and numbers -/
def ownT : List Str := ["shape", "num", "row", "pick", "tag", "room", "things", "part", "tags", "put", "take", "many", "look", "which", "store", "choose", "copy", "each", "span", "if", "else", "end", "out"]
def ownL : List (List Nat) := ownT.map fun z => z.cps.toList
theorem ownT_wds : ownT.map V.str = wds ownL := by
  unfold wds ownL
  rw [List.map_map]
  rfl
def isNameL (l : List Nat) : Bool := decide (1 ≤ l.length) && decide (l.length ≤ 6) && l.all (fun c => decide (97 ≤ c ∧ c ≤ 122)) && !decide (l ∈ ownL)
def numL (l : List Nat) : Option Nat := if 1 ≤ l.length ∧ l.length ≤ 10 ∧ l.all (fun c => decide (48 ≤ c ∧ c ≤ 57)) = true ∧ ¬ (l.head? = some 48 ∧ 1 < l.length) then some (NumText.digitsVal l) else none
def nameV : V → Bool
  | .str z => isNameL z.cps.toList
  | _ => false
def optV : Option Nat → V
  | some n => .int (n : Int)
  | none => .non
def withinV (o : Option Nat) (lo hi : Int) : V := match o with
  | some n => if lo ≤ (n : Int) ∧ (n : Int) ≤ hi then .int (n : Int) else .non
  | none => .non
def numV (x : V) (lo hi : Int) : V := match x with
  | .str z => withinV (numL z.cps.toList) lo hi
  | _ => .non
def alphaL : List Nat := (List.range 26).map (· + 97)
def figL : List Nat := (List.range 10).map (· + 48)
theorem eLet : Str.ofString "abcdefghijklmnopqrstuvwxyz" = S alphaL := by decide +kernel
theorem eFig : Str.ofString "0123456789" = S figL := by decide +kernel
theorem e_0 : Str.ofString "0" = S [48] := by decide +kernel
theorem e_9 : Str.ofString "9" = S [57] := by decide +kernel
theorem e_a : Str.ofString "a" = S [97] := by decide +kernel
theorem e_z : Str.ofString "z" = S [122] := by decide +kernel
theorem e_no : Str.ofString "" = S [] := by decide +kernel
theorem alpha_mem (c : Nat) : decide (c ∈ alphaL) = decide (97 ≤ c ∧ c ≤ 122) := by
  apply decide_eq_decide.mpr
  unfold alphaL
  rw [List.mem_map]
  constructor
  · rintro ⟨k, hk, rfl⟩
    have := List.mem_range.mp hk
    omega
  · rintro ⟨h1, h2⟩
    exact ⟨c - 97, List.mem_range.mpr (by omega), by omega⟩
theorem fig_mem (c : Nat) : decide (c ∈ figL) = decide (48 ≤ c ∧ c ≤ 57) := by
  apply decide_eq_decide.mpr
  unfold figL
  rw [List.mem_map]
  constructor
  · rintro ⟨k, hk, rfl⟩
    have := List.mem_range.mp hk
    omega
  · rintro ⟨h1, h2⟩
    exact ⟨c - 48, List.mem_range.mpr (by omega), by omega⟩
theorem own_len : ∀ w ∈ ownL, 2 ≤ w.length ∧ w.length ≤ 6 := by decide +kernel
theorem idx_fig {c : Nat} (h : 48 ≤ c) (h2 : c ≤ 57) : Txt.index0 (Str.ofString "0123456789") (S [c]) = some (c - 48) := by
  have hc : c = 48 ∨ c = 49 ∨ c = 50 ∨ c = 51 ∨ c = 52 ∨ c = 53 ∨ c = 54 ∨ c = 55 ∨ c = 56 ∨ c = 57 := by omega
  rcases hc with rfl | rfl | rfl | rfl | rfl | rfl | rfl | rfl | rfl | rfl <;> decide +kernel
theorem digits_snoc (l : List Nat) (c : Nat) : NumText.digitsVal (l ++ [c]) = NumText.digitsVal l * 10 + (c - 48) := by
  unfold NumText.digitsVal
  rw [List.foldl_append]
  rfl
def spAre : Sp := fun vs H Q _ => ∃ (l sg : List Nat), vs = [.str (S l), .str (S sg)] ∧ l.length ≤ 1000 ∧ Q (.bl (l.all fun c => decide (c ∈ sg))) H
def spIsName (K : PySem.W.Frag) : Sp := fun vs H Q _ => ∃ (x : V) (T : String), vs = [x] ∧ Th K H x T ∧ (∀ z, x = .str z → z.length ≤ 1000) ∧ Q (.bl (nameV x)) H
def spNumIn (K : PySem.W.Frag) : Sp := fun vs H Q _ => ∃ (x : V) (T : String) (lo hi : Int), vs = [x, .int lo, .int hi] ∧ Th K H x T ∧ (∀ z, x = .str z → z.length ≤ 1000) ∧ Q (numV x lo hi) H
section
variable {P : Program} {w : World} {K : PySem.W.Frag} {mg : Str → Option Value} {base : Heap}
theorem ok_are {f : Addr} {fd : FuncData} (F : Fun K "are_signs" "are_signs" s_are_signs f fd) : FnOk P w K mg base CX0 1 f fd ["text", "signs"] spAre := by
  refine F.ok sc_are_signs (fun vs H Q E h => ?_) (fun cdv A outer s H vs Q E hr h => ?_)
  · obtain ⟨l, sg, rfl, _⟩ := h
    rfl
  · obtain ⟨l, sg, rfl, hl, q⟩ := h
    refine ⟨_, (pss_cons (ps_for PassesOwn.never rfl (pi_str (pv 0)) (pg_name (i := 2) sc_are_signs.nd rfl (by first | exact Or.inl rfl | exact Or.inr rfl)) (pss_one (ps_if (pt_cmpR op_notIn_sign (pv 2) (pv 1) (by rfl)) (pss_one (ps_ret pe_bl)) pss_nil)))
      (pss_one (ps_ret pe_bl))), ?_⟩
    walk_at "rd"
    refine Loop.strL (fun i σ H1 => ∃ (y : Option V), H1 = H ∧ σ = [some (.str (S l)), some (.str (S sg)), y] ∧ ((l.take i).all fun c => decide (c ∈ sg)) = true) ⟨none, rfl, rfl, rfl⟩ ?_ ?_
    · rintro i c σ H1 hx ⟨y, rfl, rfl, e⟩
      walk_at "rd"
      refine ⟨c, rfl, ite2 (fun g => ?_) (fun g => ?_)⟩
      · have e2 : (l.all fun c => decide (c ∈ sg)) = false := by
          cases e3 : l.all fun c => decide (c ∈ sg) with
          | false => rfl
          | true => exact absurd (of_decide_eq_true (List.all_eq_true.mp e3 c (List.mem_of_getElem? hx))) g
        rw [e2] at q
        exact q
      · rw [take_snoc hx, List.all_append, e, Bool.true_and]
        show (decide (c ∈ sg) && true) = true
        rw [decide_eq_true (Classical.not_not.mp g)]
        rfl
    · rintro σ H1 ⟨y, rfl, rfl, e⟩
      walk_at "rd"
      rw [List.take_length] at e
      rw [e] at q
      exact q
theorem ok_isName {f TA_OWN_WORDS : Addr} {fd : FuncData} (F : Fun K "is_name" "is_name" s_is_name f fd) (z_isinstance : mg "isinstance" = none) (z_str : mg "str" = none) (z_len : mg "len" = none) (c_LONGEST_NAME : ∃ t, mg "LONGEST_NAME" = some (.int 6 t)) (c_LETTERS : ∃ t, mg "LETTERS" = some (.str "abcdefghijklmnopqrstuvwxyz" t)) (c_OWN_WORDS : mg "OWN_WORDS" = some (.ref TA_OWN_WORDS)) (T_OWN_WORDS : ∀ H, SqT K H TA_OWN_WORDS (ownT.map V.str)) (D_are_signs : Dn P w K mg base CX0 1 "are_signs" ["text", "signs"] spAre) : FnOk P w K mg base CX0 2 f fd ["thing"] (spIsName K) := by
  refine F.ok sc_is_name (fun vs H Q E h => ?_) (fun cdv A outer s H vs Q E hr h => ?_)
  · obtain ⟨x, T, rfl, _⟩ := h
    rfl
  · obtain ⟨x, T, rfl, t, hz, q⟩ := h
    refine ⟨_, (pss_cons (ps_if (PW.pt (pw_or (pt_not (pt_val (pe_callB (call_isiK' (K := K)) (by rfl) z_isinstance (by decide +kernel) (pa_cons (pv 0) (pa_cons (pe_bltn (v := V.ty "str") (u := Value.type "str") (by rfl) z_str (by decide +kernel) rfl) pa_nil))))) (pw_or1 (pt_not (pt_chain op_le op_le pe_int (pe_callB call_len_str (by rfl) z_len (by decide +kernel) (pa_cons (pv 0) pa_nil)) (pe_gi (by rfl) c_LONGEST_NAME)))))) (pss_one (ps_ret pe_bl)) pss_nil)
      (pss_one (ps_ret (pe_and (pe_cd D_are_signs (hr.mono (by first | decide | omega)) (by rfl) pass0 (pa_cons (pv 0) (pa_cons (pe_gs (by rfl) c_LETTERS) pa_nil))) (pe_one (pe_cmpR (op_notIn_seqK (K := K)) (pv 0) (pe_gr (by rfl) c_OWN_WORDS) (by rfl))))))), ?_⟩
    walk_at "rd"
    cases t with
    | str z =>
      obtain ⟨l, rfl⟩ : ∃ l, z = S l := ⟨_, str_S z⟩
      have hl := hz _ rfl
      rw [S_len] at hl
      have q' : Q (.bl (isNameL l)) H := q
      unfold isNameL at q'
      refine isiT thg_str (by decide) (iteN (by decide) ⟨S l, rfl, ?_⟩)
      rw [S_len]
      refine ⟨by rw [sizeLine_eq]; omega, ite2 (fun c1 => ite2 (fun c2 => ?_) (fun c2 => ?_)) (fun c1 => ?_)⟩
      · rw [decide_eq_true (show 1 ≤ l.length by omega), decide_eq_false (show ¬ l.length ≤ 6 by omega)] at q'
        exact q'
      · rw [decide_eq_true (show 1 ≤ l.length by omega), decide_eq_true (show l.length ≤ 6 by omega), Bool.true_and, Bool.true_and] at q'
        have ea : (l.all fun c => decide (c ∈ alphaL)) = l.all fun c => decide (97 ≤ c ∧ c ≤ 122) := by
          congr 1
          funext c
          exact alpha_mem c
        refine ⟨l, alphaL, by rw [eLet], hl, ?_⟩
        rw [ea]
        refine ⟨_, rfl, ite2 (fun c3 => ⟨_, .inr (T_OWN_WORDS H), rfl, by rw [ownT_wds]; exact flat_wds _, ?_⟩) (fun c3 => ?_)⟩
        · rw [ownT_wds, inV_str]
          rw [c3, Bool.true_and] at q'
          exact q'
        · rw [Bool.eq_false_iff.mpr c3, Bool.false_and] at q'
          exact q'
      · rw [decide_eq_false (show ¬ 1 ≤ l.length by omega)] at q'
        exact q'
    | int i => exact isiT thg_int (by decide) (iteP rfl q)
    | bl b => exact isiT thg_bl (by decide) (iteP rfl q)
    | non => exact isiT thg_non (by decide) (iteP rfl q)
    | lst h => exact isiT (thg_seq h) (by decide) (iteP rfl q)
    | tup h => exact isiT (thg_tup h) (by decide) (iteP rfl q)
    | dK h => exact isiT (thg_dK h) (by decide) (iteP rfl q)
theorem ok_numIn {f : Addr} {fd : FuncData} (F : Fun K "number_in" "number_in" s_number_in f fd) (z_isinstance : mg "isinstance" = none) (z_str : mg "str" = none) (z_int : mg "int" = none) (z_len : mg "len" = none) (c_LONGEST_NUMBER : ∃ t, mg "LONGEST_NUMBER" = some (.int 10 t)) (c_FIGURES : ∃ t, mg "FIGURES" = some (.str "0123456789" t)) (D_are_signs : Dn P w K mg base CX0 1 "are_signs" ["text", "signs"] spAre) : FnOk P w K mg base CX0 2 f fd ["text", "low", "high"] (spNumIn K) := by
  refine F.ok sc_number_in (fun vs H Q E h => ?_) (fun cdv A outer s H vs Q E hr h => ?_)
  · obtain ⟨x, T, lo, hi, rfl, _⟩ := h
    rfl
  · obtain ⟨x, T, lo, hi, rfl, t, hz, q⟩ := h
    refine ⟨_, (pss_cons (ps_if (PW.pt (pw_or (pt_not (pt_val (pe_callB (call_isiK' (K := K)) (by rfl) z_isinstance (by decide +kernel) (pa_cons (pv 0) (pa_cons (pe_bltn (v := V.ty "str") (u := Value.type "str") (by rfl) z_str (by decide +kernel) rfl) pa_nil))))) (pw_or (pt_not (pt_chain op_le op_le pe_int (pe_callB call_len_str (by rfl) z_len (by decide +kernel) (pa_cons (pv 0) pa_nil)) (pe_gi (by rfl) c_LONGEST_NUMBER))) (pw_or1 (pt_not (pt_val (pe_cd D_are_signs (hr.mono (by first | decide | omega)) (by rfl) pass0 (pa_cons (pv 0) (pa_cons (pe_gs (by rfl) c_FIGURES) pa_nil))))))))) (pss_one (ps_ret pe_non)) pss_nil)
      (pss_cons (ps_if (PW.pt (pw_or (PW.pt (pw_and (pt_cmpR op_eq (pe_ix ix_str (pv 0) pe_int (fun _ _ => rfl)) pe_str (nomark _)) (pw_and1 (pt_cmpR op_ne (pv 0) pe_str (nomark _))))) (pw_or1 (pt_not (pt_chain op_le op_le (pv 1) (pe_callTy call_int_str (by rfl) z_int (by decide +kernel) (pa_cons (pv 0) pa_nil)) (pv 2)))))) (pss_one (ps_ret pe_non)) pss_nil)
      (pss_one (ps_ret (pe_callTy call_int_str (by rfl) z_int (by decide +kernel) (pa_cons (pv 0) pa_nil)))))), ?_⟩
    walk_at "rd"
    cases t with
    | str z =>
      obtain ⟨l, rfl⟩ : ∃ l, z = S l := ⟨_, str_S z⟩
      have hl := hz _ rfl
      rw [S_len] at hl
      have q' : Q (withinV (numL l) lo hi) H := q
      have ea : (l.all fun c => decide (c ∈ figL)) = l.all fun c => decide (48 ≤ c ∧ c ≤ 57) := by
        congr 1
        funext c
        exact fig_mem c
      have no : ∀ {P : Prop}, ¬ P → (1 ≤ l.length ∧ l.length ≤ 10 ∧ l.all (fun c => decide (48 ≤ c ∧ c ≤ 57)) = true ∧ ¬ (l.head? = some 48 ∧ 1 < l.length) → P) → Q .non H := fun hP h => by
        unfold numL at q'
        rw [if_neg fun g => hP (h g)] at q'
        exact q'
      have sz : (S l).length ≤ sizeLine := by
        rw [S_len, sizeLine_eq]
        omega
      refine isiT thg_str (by decide) (iteN (by decide) ⟨S l, rfl, sz, ?_⟩)
      rw [S_len]
      refine ite2 (fun c1 => ite2 (fun c2 => no (P := l.length ≤ 10) (by omega) (fun g => g.2.1)) (fun c2 => ?_)) (fun c1 => no (P := 1 ≤ l.length) (by omega) (fun g => g.1))
      refine ⟨l, figL, by rw [eFig], hl, ?_⟩
      rw [ea]
      refine ⟨_, rfl, ite2 (fun c3 => no (P := l.all (fun c => decide (48 ≤ c ∧ c ≤ 57)) = true) (by rw [c3]; decide) (fun g => g.2.2.1)) (fun c3 => ⟨S l, rfl, sz, ?_⟩)⟩
      have hall : l.all (fun c => decide (48 ≤ c ∧ c ≤ 57)) = true := by
        cases e : l.all (fun c => decide (48 ≤ c ∧ c ≤ 57)) with
        | true => rfl
        | false => exact absurd e c3
      obtain ⟨c, r, rfl⟩ : ∃ c r, l = c :: r := by
        cases l with
        | nil => exact absurd c1 (by decide)
        | cons c r => exact ⟨c, r, rfl⟩
      have hint : intText? (S (c :: r)) = some ((NumText.digitsVal (c :: r) : Nat) : Int) := int_S (by
        rw [← hall]
        congr 1
        funext d
        by_cases g1 : 48 ≤ d <;> by_cases g2 : d ≤ 57 <;> simp [g1, g2]) (by simp) (by omega)
      have fin : ¬ (c = 48 ∧ 1 < (c :: r).length) → ∃ a, V.str (S (c :: r)) = V.str a ∧ ∃ x, intText? a = some x ∧ a.length ≤ 640 ∧ if lo ≤ x then if ¬ x ≤ hi then Q .non H else ∃ a, V.str (S (c :: r)) = V.str a ∧ ∃ x, intText? a = some x ∧ a.length ≤ 640 ∧ Q (.int x) H else Q .non H := fun hz0 => by
        have en : numL (c :: r) = some (NumText.digitsVal (c :: r)) := by
          unfold numL
          rw [if_pos ⟨by omega, by omega, hall, fun h => hz0 ⟨Option.some.inj h.1, h.2⟩⟩]
        rw [en] at q'
        unfold withinV at q'
        dsimp only at q'
        have l640 : (S (c :: r)).length ≤ 640 := by
          rw [S_len]
          omega
        refine ⟨_, rfl, _, hint, l640, ite2 (fun g1 => ite2 (fun g2 => ?_) (fun g2 => ⟨_, rfl, _, hint, l640, ?_⟩)) (fun g1 => ?_)⟩
        · rw [if_neg (fun h => g2 h.2)] at q'
          exact q'
        · rw [if_pos ⟨g1, Classical.not_not.mp g2⟩] at q'
          exact q'
        · rw [if_neg (fun h => g1 h.1)] at q'
          exact q'
      refine ⟨c, atI_nat (j := 0) rfl, ?_⟩
      rw [e_0]
      refine ite2 (fun g => ⟨rfl, ite2 (fun g2 => ?_) (fun g2 => ?_)⟩) (fun g => fin (fun h => g (by rw [h.1])))
      · have hc : c = 48 := by
          have := S_inj (a := [c]) (b := [48]) g
          simpa using this
        refine no (P := ¬ (c = 48 ∧ 1 < (c :: r).length)) (fun h => h ⟨hc, ?_⟩) (fun h h3 => h.2.2.2 ⟨congrArg some h3.1, h3.2⟩)
        rw [List.length_cons]
        cases r with
        | nil => exact absurd (by rw [hc]) g2
        | cons => rw [List.length_cons]; omega
      · have e := S_inj (V.str.inj (Classical.not_not.mp g2))
        refine fin (fun h => ?_)
        rw [e] at h
        exact absurd h.2 (by decide)
    | int i => exact isiT thg_int (by decide) (iteP rfl q)
    | bl b => exact isiT thg_bl (by decide) (iteP rfl q)
    | non => exact isiT thg_non (by decide) (iteP rfl q)
    | lst h => exact isiT (thg_seq h) (by decide) (iteP rfl q)
    | tup h => exact isiT (thg_tup h) (by decide) (iteP rfl q)
    | dK h => exact isiT (thg_dK h) (by decide) (iteP rfl q)
end

/-! ### letters by draws -/
theorem DSt.keep {H H1 : Hp} {t : Addr} (d : DSt H t) (s : Same H H1) : DSt H1 t := by
  obtain ⟨r, n, c, h⟩ := d
  exact ⟨r, n, c, s _ _ h⟩
theorem DSt.apart {H : Hp} {t D : Addr} (d : DSt H t) (h : H D = none) : D ≠ t := by
  obtain ⟨r, n, c, h1⟩ := d
  intro e
  rw [e, h1] at h
  cases h
theorem pickS {l : List Nat} {v : Int} (h0 : 0 ≤ v) (h1 : v < l.length) : ∃ c, c ∈ l ∧ atI (S l).cps.toList v = some c := by
  have hj : v.toNat < l.length := by omega
  refine ⟨l[v.toNat], List.getElem_mem hj, ?_⟩
  show atI l v = some (l[v.toNat])
  have e := atI_nat (j := v.toNat) (List.getElem?_eq_getElem hj)
  rw [show ((v.toNat : Nat) : Int) = v by omega] at e
  exact e
theorem pickW {l : List (List Nat)} {v : Int} (h0 : 0 ≤ v) (h1 : v < l.length) : ∃ c, c ∈ l ∧ atI (wds l) v = some (.str (S c)) := by
  have hj : v.toNat < l.length := by omega
  refine ⟨l[v.toNat], List.getElem_mem hj, at_of (j := v.toNat) (by omega) ?_⟩
  unfold wds
  rw [List.getElem?_map, List.getElem?_eq_getElem hj]
  rfl
theorem Cmp.letters {lo : Int} {n j : Nat} {te : TE} {vs : List Nat} {σ : L2.St} {H1 : Hp} {Q : VK} {t : Addr} (d0 : DSt H1 t) (hn : n ≤ 1000) (hw : ∀ x, wipe ((wipe σ vs).set j (some x)) vs = wipe σ vs)
    (he : ∀ x H2 (R : VK), Off t H1 H2 → DSt H2 t → (∀ c H3, Off t H2 H3 → DSt H3 t → R (.str ⟨#[c]⟩) H3) → te ((wipe σ vs).set j (some x)) H2 R)
    (hd : ∀ D (cs : List Nat) H2, cs.length = n → Off t H1 H2 → DSt H2 t → H2 D = some (.lst (wds (cs.map fun c => [c]))) → Q (.ref D) H2) : Cmp (Itr lo n) (gName j) tYes te vs σ H1 Q := by
  refine Cmp.range (fun D i acc H => H1 D = none ∧ Off t H1 H ∧ DSt H t ∧ ∃ cs : List Nat, acc = wds (cs.map fun c => [c]) ∧ cs.length = i ∧ H D = some (.lst acc)) (fun D H2 nD s h => ⟨nD, Off.of s, d0.keep s, [], rfl, rfl, h⟩) ?_ ?_
  · rintro D i acc H Nx hi ha ⟨nD, o, d, cs, rfl, e, h⟩ nx
    refine ⟨hw _, he _ _ _ o d fun c H3 o3 d3 => ?_⟩
    have nt := d0.apart nD
    refine ⟨_, o3 _ _ nt h, sz100l (by unfold wds; rw [List.length_map, List.length_map]; omega), ?_⟩
    have e2 : wds (cs.map fun c => [c]) ++ [V.str ⟨#[c]⟩] = wds ((cs ++ [c]).map fun c => [c]) := by
      unfold wds
      rw [List.map_append, List.map_append]
      rfl
    rw [e2]
    refine nx _ _ (by unfold wds; rw [List.length_map, List.length_map, List.length_append]; simp; omega) ⟨nD, ?_, ?_, cs ++ [c], rfl, by simp; omega, upd_same⟩
    · intro b u nb hb
      rw [upd_ne (ne_of_none hb nD)]
      exact o3 _ _ nb (o _ _ nb hb)
    · obtain ⟨r, k, c, h1⟩ := d3
      exact ⟨r, k, c, by rw [upd_ne (Ne.symm nt)]; exact h1⟩
  · rintro D acc H ha ⟨nD, o, d, cs, rfl, e, h⟩
    exact hd D cs H e o d h
theorem join_flat : ∀ ys : List (List Nat), TL.joinL [] ys = ys.flatten
  | [] => rfl
  | [p] => by
    show p = [p].flatten
    simp
  | p :: q :: r => by
    show p ++ ([] ++ TL.joinL [] (q :: r)) = _
    rw [join_flat (q :: r)]
    simp
theorem flat_one (cs : List Nat) : (cs.map fun c => [c]).flatten = cs := by
  induction cs with
  | nil => rfl
  | cons c r ih =>
    rw [List.map_cons, List.flatten_cons, ih]
    rfl
theorem join_one (cs : List Nat) : TL.joinL [] (cs.map fun c => [c]) = cs := by rw [join_flat, flat_one]
theorem sum_one (cs : List Nat) : ((cs.map fun c => [c]).map fun x => x.length).sum = cs.length := by
  induction cs with
  | nil => rfl
  | cons c r ih =>
    rw [List.map_cons, List.map_cons, List.sum_cons, ih]
    show 1 + r.length = r.length + 1
    omega
theorem lt1 (a b : Nat) : decide ([a] < [b]) = decide (a < b) := by
  apply decide_eq_decide.mpr
  constructor
  · intro h
    cases h with
    | rel h => exact h
    | cons h => cases h
  · intro h
    exact .rel h
theorem cmpS {R : Bool → Prop} {a b c : Nat} (r : R (decide (a ≤ c ∧ c ≤ b))) : if ¬ [c] < [a] then R (!decide ([b] < [c])) else R false := by
  have h1 : [c] < [a] ↔ c < a := decide_eq_decide.mp (lt1 c a)
  refine ite2 (fun g => ?_) (fun g => ?_)
  · rw [lt1]
    have g2 : a ≤ c := by
      have : ¬ c < a := fun h => g (h1.mpr h)
      omega
    by_cases g3 : c ≤ b
    · rw [decide_eq_true ⟨g2, g3⟩] at r
      rw [decide_eq_false (show ¬ b < c by omega)]
      exact r
    · rw [decide_eq_false (fun h => g3 h.2)] at r
      rw [decide_eq_true (show b < c by omega)]
      exact r
  · have g2 := h1.mp (Classical.not_not.mp g)
    rw [decide_eq_false (show ¬ (a ≤ c ∧ c ≤ b) by omega)] at r
    exact r
theorem str_small {n : Nat} (h : n < 1000000) : (n : Int).natAbs.log2 < 1920 := by
  by_cases h0 : n = 0
  · subst h0
    decide
  · have : (n : Int).natAbs = n := Int.natAbs_natCast n
    rw [this]
    exact (Nat.log2_lt h0).mpr (Nat.lt_of_lt_of_le h (Nat.le_trans (by decide : 1000000 ≤ 2 ^ 20) (Nat.pow_le_pow_right (by decide) (show 20 ≤ 1920 by decide))))

/-! ### shapes, as data -/
inductive Kd where
  | num (w : Nat)
  | row (n : Nat) (k : Kd)
  | shp (i : Nat)
  | pick (is : List Nat)
abbrev Fl := List (List Nat × Kd)
abbrev Tb := List (List Nat × Fl)
def flds (T : Tb) (i : Nat) : Fl := match T[i]? with | some s => s.2 | none => []
def nameT (T : Tb) (i : Nat) : List Nat := match T[i]? with | some s => s.1 | none => []
/-- well made, with so many steps within -/
def Rk (T : Tb) : Nat → Kd → Prop
  | 0, _ => False
  | _ + 1, .num w => w ≤ 1000
  | n + 1, .row m k => m ≤ 1000 ∧ Rk T n k
  | n + 1, .shp i => i < T.length ∧ (nameT T i).length ≤ 10 ∧ (flds T i).length ≤ 100 ∧ flds T i ≠ [] ∧ ∀ p ∈ flds T i, p.1.length ≤ 10 ∧ p.1 ≠ [] ∧ Rk T n p.2
  | n + 1, .pick is => is ≠ [] ∧ is.length ≤ 100 ∧ ∀ i ∈ is, Rk T n (.shp i)
theorem Rk.mono {T : Tb} : ∀ {n : Nat} {k : Kd}, Rk T n k → Rk T (n + 1) k
  | 0, _, h => h.elim
  | _ + 1, .num _, h => h
  | n + 1, .row _ k, h => ⟨h.1, Rk.mono h.2⟩
  | n + 1, .shp i, h => ⟨h.1, h.2.1, h.2.2.1, h.2.2.2.1, fun p hp => ⟨(h.2.2.2.2 p hp).1, (h.2.2.2.2 p hp).2.1, Rk.mono (h.2.2.2.2 p hp).2.2⟩⟩
  | n + 1, .pick is, h => ⟨h.1, h.2.1, fun i hi => Rk.mono (h.2.2 i hi)⟩
theorem Rk.le {T : Tb} {n m : Nat} {k : Kd} (h : Rk T n k) (l : n ≤ m) : Rk T m k := by
  induction l with
  | refl => exact h
  | step _ ih => exact ih.mono
def maxL : List Int → Int
  | [] => 0
  | x :: r => max x (maxL r)
theorem maxL_ge : ∀ {l : List Int} {x : Int}, x ∈ l → x ≤ maxL l
  | a :: r, x, h => by
    rcases List.mem_cons.mp h with rfl | h
    · exact Int.le_max_left _ _
    · exact Int.le_trans (maxL_ge h) (Int.le_max_right _ _)
theorem maxL_mem : ∀ {l : List Int}, l ≠ [] → (∀ x ∈ l, 0 ≤ x) → maxL l ∈ l
  | [], h, _ => absurd rfl h
  | [a], _, h => by
    have : max a (maxL []) = a := Int.max_eq_left (h a List.mem_cons_self)
    show max a (maxL []) ∈ [a]
    rw [this]
    exact List.mem_cons_self
  | a :: b :: r, _, h => by
    have ih := maxL_mem (l := b :: r) (List.cons_ne_nil _ _) fun x hx => h x (List.mem_cons_of_mem _ hx)
    show max a (maxL (b :: r)) ∈ _
    by_cases g : a ≤ maxL (b :: r)
    · rw [Int.max_eq_right g]
      exact List.mem_cons_of_mem _ ih
    · rw [Int.max_eq_left (by omega)]
      exact List.mem_cons_self
theorem maxL_eq {l : List Int} {m : Int} (hm : m ∈ l) (h : ∀ x ∈ l, x ≤ m) (h0 : ∀ x ∈ l, 0 ≤ x) : m = maxL l := by
  have h1 := maxL_ge hm
  have h2 := h _ (maxL_mem (List.ne_nil_of_mem hm) h0)
  omega
theorem maxL_nn : ∀ (l : List Int), 0 ≤ maxL l
  | [] => Int.le_refl _
  | a :: r => Int.le_trans (maxL_nn r) (Int.le_max_right _ _)
def sizeK (T : Tb) : Nat → Kd → Int
  | 0, _ => 0
  | _ + 1, .num w => (w : Int)
  | n + 1, .row m k => (m : Int) * sizeK T n k
  | n + 1, .shp i => ((flds T i).map fun p => sizeK T n p.2).sum
  | n + 1, .pick is => 1 + maxL (is.map fun i => sizeK T n (.shp i))
def depthK (T : Tb) : Nat → Kd → Int
  | 0, _ => 0
  | _ + 1, .num _ => 0
  | n + 1, .row _ k => depthK T n k
  | n + 1, .shp i => 1 + maxL ((flds T i).map fun p => depthK T n p.2)
  | n + 1, .pick is => maxL (is.map fun i => depthK T n (.shp i))
theorem sum_nn : ∀ {l : List Int}, (∀ x ∈ l, 0 ≤ x) → 0 ≤ l.sum
  | [], _ => Int.le_refl _
  | a :: r, h => by
    rw [List.sum_cons]
    have := h a List.mem_cons_self
    have := sum_nn (l := r) fun x hx => h x (List.mem_cons_of_mem _ hx)
    omega
theorem sizeK_nn (T : Tb) : ∀ (n : Nat) (k : Kd), 0 ≤ sizeK T n k
  | 0, _ => Int.le_refl _
  | _ + 1, .num w => Int.natCast_nonneg w
  | n + 1, .row m k => Int.mul_nonneg (Int.natCast_nonneg m) (sizeK_nn T n k)
  | n + 1, .shp i => sum_nn fun x hx => by
    obtain ⟨p, _, rfl⟩ := List.mem_map.mp hx
    exact sizeK_nn T n p.2
  | n + 1, .pick is => by
    have := maxL_nn (is.map fun i => sizeK T n (.shp i))
    show 0 ≤ 1 + _
    omega
theorem depthK_nn (T : Tb) : ∀ (n : Nat) (k : Kd), 0 ≤ depthK T n k
  | 0, _ => Int.le_refl _
  | _ + 1, .num _ => Int.le_refl _
  | n + 1, .row _ k => depthK_nn T n k
  | n + 1, .shp i => by
    have := maxL_nn ((flds T i).map fun p => depthK T n p.2)
    show 0 ≤ 1 + _
    omega
  | n + 1, .pick is => maxL_nn _
structure SelfD (K : PySem.W.Frag) (mg : Str → Option Value) (f : Addr) (fd : FuncData) (x : Str) (ps : List Str) : Prop where
  m : mg x = some (.ref f)
  kp : PySem.W.keepIn K (.ref f) = true
  b : Binds K fd ps []
theorem SelfD.dn {P : Program} {w : World} {K : PySem.W.Frag} {mg : Str → Option Value} {base : Heap} {CX : CXT} {n : Nat} {f : Addr} {fd : FuncData} {x : Str} {ps : List Str} {sp : Sp} (W : SelfD K mg f fd x ps) (F : FnOk P w K mg base CX n f fd ps sp) : Dn P w K mg base CX n x ps sp := ⟨⟨f, fd, F, W.m, W.kp, W.b⟩⟩
/-! texts -/
def numW : List Nat := [110, 117, 109]
def rowW : List Nat := [114, 111, 119]
def pickW' : List Nat := [112, 105, 99, 107]
def shapeW : List Nat := [115, 104, 97, 112, 101]
def tagW' : List Nat := [116, 97, 103]
theorem e_num : Str.ofString "num" = S numW := by decide +kernel
theorem e_row : Str.ofString "row" = S rowW := by decide +kernel
theorem e_pick : Str.ofString "pick" = S pickW' := by decide +kernel
theorem e_shape : Str.ofString "shape" = S shapeW := by decide +kernel
theorem e_tag : Str.ofString "tag" = S tagW' := by decide +kernel
theorem e_dot : Str.ofString "." = S [46] := by decide +kernel
theorem e_nix : Str.ofString "" = S [] := by decide +kernel
theorem e_bl : Str.ofString " " = S [32] := by decide +kernel
theorem e_lf : Str.ofString "\n" = S [10] := by decide +kernel
def joinedL (p s : List Nat) : List Nat := if p = [] then s else p ++ [46] ++ s
/-- a unit: path, width, sort -/
abbrev Un := List Nat × Int × List Nat
def unV (u : Un) : List V := [.str (S u.1), .int u.2.1, .str (S u.2.2)]
def unitsK (T : Tb) : Nat → Kd → List Nat → List Un
  | 0, _, _ => []
  | _ + 1, .num w, p => [(p, (w : Int), numW)]
  | n + 1, .row m k, p => (List.range m).flatMap fun i => unitsK T n k (joinedL p (TL.numL i))
  | n + 1, .shp i, p => (flds T i).flatMap fun q => unitsK T n q.2 (joinedL p q.1)
  | n + 1, .pick is, p => [(joinedL p tagW', 1, tagW'), (p, maxL (is.map fun i => sizeK T n (.shp i)), pickW')]
def wordsK (T : Tb) : Kd → List (List Nat)
  | .num w => [numW, TL.numL w]
  | .row m k => rowW :: TL.numL m :: wordsK T k
  | .shp i => [nameT T i]
  | .pick is => pickW' :: is.map (nameT T)
def textK (T : Tb) (k : Kd) : List Nat := TL.joinL [32] (wordsK T k)
def lineS (n : List Nat) : List Nat := TL.joinL [32] [shapeW, n]
def lineF (T : Tb) (f : List Nat × Kd) : List Nat := TL.joinL [32] (f.1 :: wordsK T f.2)
def linesS (T : Tb) (s : List Nat × Fl) : List (List Nat) := lineS s.1 :: s.2.map (lineF T)
def linesT (T : Tb) : List (List Nat) := T.flatMap (linesS T)
def textT (T : Tb) : List Nat := TL.joinL [10] (linesT T)
/-! on the heap, as the law has them -/
def KT (S : List Addr) (H : Hp) : Kd → Addr → Prop
  | .num w, a => a ∉ S ∧ H a = some (.tup [.str (Str.ofString "num"), .int (w : Int)])
  | .row m k, a => a ∉ S ∧ ∃ b, H a = some (.tup [.str (Str.ofString "row"), .int (m : Int), .ref b]) ∧ KT S H k b
  | .shp i, a => a ∉ S ∧ H a = some (.tup [.str (Str.ofString "shape"), .int (i : Int)])
  | .pick is, a => a ∉ S ∧ ∃ l, l ∉ S ∧ H a = some (.tup [.str (Str.ofString "pick"), .ref l]) ∧ H l = some (.lst (is.map fun i => .int ((i : Nat) : Int)))
theorem KT.keep {S : List Addr} {H H1 : Hp} (o : OffS S H H1) : ∀ {k : Kd} {a : Addr}, KT S H k a → KT S H1 k a
  | .num _, _, h => ⟨h.1, o _ _ h.1 h.2⟩
  | .row _ _, _, ⟨n, b, h, k⟩ => ⟨n, b, o _ _ n h, k.keep o⟩
  | .shp _, _, h => ⟨h.1, o _ _ h.1 h.2⟩
  | .pick _, _, ⟨n, l, m, h, k⟩ => ⟨n, l, m, o _ _ n h, o _ _ m k⟩
theorem KT.sub {S S' : List Addr} {H : Hp} (hs : ∀ a ∈ S', a ∈ S ∨ H a = none) : ∀ {k : Kd} {a : Addr}, KT S H k a → KT S' H k a := by
  have out : ∀ {a : Addr} {o : HO}, a ∉ S → H a = some o → a ∉ S' := fun n h m => by
    rcases hs _ m with g | g
    · exact n g
    · rw [g] at h
      cases h
  intro k
  induction k with
  | num _ => exact fun h => ⟨out h.1 h.2, h.2⟩
  | row _ _ ih => exact fun ⟨n, b, h, k⟩ => ⟨out n h, b, h, ih k⟩
  | shp _ => exact fun h => ⟨out h.1 h.2, h.2⟩
  | pick _ => exact fun ⟨n, l, m, h, k⟩ => ⟨out n h, l, out m k, h, k⟩
/-- a list of fields -/
def FlL (S : List Addr) (H : Hp) : List V → Fl → Prop := Paired fun y p => ∃ b c, y = .ref b ∧ b ∉ S ∧ H b = some (.tup [.str (SX.S p.1), .ref c]) ∧ KT S H p.2 c
/-- a list of shapes -/
def TbL (S : List Addr) (H : Hp) : List V → Tb → Prop := Paired fun x s => ∃ a f ys, x = .ref a ∧ a ∉ S ∧ f ∉ S ∧ H a = some (.tup [.str (SX.S s.1), .ref f]) ∧ H f = some (.lst ys) ∧ FlL S H ys s.2
theorem pget {α β : Type} {R : α → β → Prop} : ∀ {xs : List α} {ds : List β} {i : Nat} {x : α}, Paired R xs ds → xs[i]? = some x → ∃ d, ds[i]? = some d ∧ R x d
  | _, _, _, _, .nil, e => by simp at e
  | _, _, 0, _, .cons r _, e => by
    cases e
    exact ⟨_, rfl, r⟩
  | _, _, i + 1, x, .cons _ t, e => pget (i := i) t (by simpa using e)
theorem pgetR {α β : Type} {R : α → β → Prop} : ∀ {xs : List α} {ds : List β} {i : Nat} {d : β}, Paired R xs ds → ds[i]? = some d → ∃ x, xs[i]? = some x ∧ R x d
  | _, _, _, _, .nil, e => by simp at e
  | _, _, 0, _, .cons r _, e => by
    cases e
    exact ⟨_, rfl, r⟩
  | _, _, i + 1, x, .cons _ t, e => pgetR (i := i) t (by simpa using e)
theorem psnoc {α β : Type} {R : α → β → Prop} : ∀ {xs : List α} {ds : List β} {x : α} {d : β}, Paired R xs ds → R x d → Paired R (xs ++ [x]) (ds ++ [d])
  | _, _, _, _, .nil, r => .cons r .nil
  | _, _, _, _, .cons h t, r => .cons h (psnoc t r)
theorem FlL.keep {S : List Addr} {H H1 : Hp} {ys : List V} {fs : Fl} (t : FlL S H ys fs) (o : OffS S H H1) : FlL S H1 ys fs := Paired.mapP t fun y p ⟨b, c, e, n, h, k⟩ => ⟨b, c, e, n, o _ _ n h, k.keep o⟩
theorem out_of {S S' : List Addr} {H : Hp} (hs : ∀ a ∈ S', a ∈ S ∨ H a = none) {a : Addr} {o : HO} (n : a ∉ S) (h : H a = some o) : a ∉ S' := fun m => by
  rcases hs _ m with g | g
  · exact n g
  · rw [g] at h
    cases h
theorem FlL.sub {S S' : List Addr} {H : Hp} {ys : List V} {fs : Fl} (t : FlL S H ys fs) (hs : ∀ a ∈ S', a ∈ S ∨ H a = none) : FlL S' H ys fs := Paired.mapP t fun y p ⟨b, c, e, n, h, k⟩ => ⟨b, c, e, out_of hs n h, h, KT.sub hs k⟩
theorem TbL.keep {S : List Addr} {H H1 : Hp} {xs : List V} {T : Tb} (t : TbL S H xs T) (o : OffS S H H1) : TbL S H1 xs T := Paired.mapP t fun x s ⟨a, f, ys, e, n, m, h, g, k⟩ => ⟨a, f, ys, e, n, m, o _ _ n h, o _ _ m g, k.keep o⟩
theorem TbL.sub {S S' : List Addr} {H : Hp} {xs : List V} {T : Tb} (t : TbL S H xs T) (hs : ∀ a ∈ S', a ∈ S ∨ H a = none) : TbL S' H xs T := Paired.mapP t fun x s ⟨a, f, ys, e, n, m, h, g, k⟩ => ⟨a, f, ys, e, out_of hs n h, out_of hs m g, h, g, k.sub hs⟩
def TblAt (S : List Addr) (H : Hp) (t : Addr) (T : Tb) : Prop := ∃ xs, H t = some (.lst xs) ∧ TbL S H xs T
theorem TblAt.same {H H1 : Hp} {t : Addr} {T : Tb} (h : TblAt [] H t T) (s : Same H H1) : TblAt [] H1 t T := let ⟨xs, h1, h2⟩ := h; ⟨xs, s _ _ h1, h2.keep (OffS.same s)⟩
theorem KT.same {H H1 : Hp} {k : Kd} {a : Addr} (h : KT [] H k a) (s : Same H H1) : KT [] H1 k a := h.keep (OffS.same s)
theorem KT.nil {S : List Addr} {H : Hp} {k : Kd} {a : Addr} (h : KT S H k a) : KT [] H k a := h.sub fun _ m => absurd m List.not_mem_nil
theorem TbL.nil {S : List Addr} {H : Hp} {xs : List V} {T : Tb} (h : TbL S H xs T) : TbL [] H xs T := h.sub fun _ m => absurd m List.not_mem_nil
theorem flds_at {T : Tb} {i : Nat} {s : List Nat × Fl} (h : T[i]? = some s) : flds T i = s.2 := by
  unfold flds
  rw [h]
theorem name_at {T : Tb} {i : Nat} {s : List Nat × Fl} (h : T[i]? = some s) : nameT T i = s.1 := by
  unfold nameT
  rw [h]
/-- the shape i of the table -/
theorem TbL.shape {S : List Addr} {H : Hp} {xs : List V} {T : Tb} (h : TbL S H xs T) {i : Nat} (hi : i < T.length) : ∃ a f ys, xs[i]? = some (.ref a) ∧ a ∉ S ∧ f ∉ S ∧ H a = some (.tup [.str (SX.S (nameT T i)), .ref f]) ∧ H f = some (.lst ys) ∧ FlL S H ys (flds T i) := by
  have e := List.getElem?_eq_getElem hi
  obtain ⟨x, hx, a, f, ys, rfl, n, m, h1, h2, h3⟩ := pgetR h e
  exact ⟨a, f, ys, hx, n, m, by rw [name_at e]; exact h1, h2, by rw [flds_at e]; exact h3⟩
theorem map_congr' {α β : Type} {f g : α → β} : ∀ {l : List α}, (∀ x ∈ l, f x = g x) → l.map f = l.map g
  | [], _ => rfl
  | a :: r, h => by rw [List.map_cons, List.map_cons, h a List.mem_cons_self, map_congr' fun x hx => h x (List.mem_cons_of_mem _ hx)]
theorem sizeK_st {T : Tb} : ∀ {n : Nat} {k : Kd}, Rk T n k → sizeK T (n + 1) k = sizeK T n k
  | 0, _, h => h.elim
  | _ + 1, .num _, h => rfl
  | n + 1, .row m k, h => by
    show (m : Int) * _ = (m : Int) * _
    rw [sizeK_st h.2]
  | n + 1, .shp i, h => by
    show List.sum _ = List.sum _
    exact congrArg List.sum (map_congr' fun p hp => sizeK_st (h.2.2.2.2 p hp).2.2)
  | n + 1, .pick is, h => by
    show 1 + maxL _ = 1 + maxL _
    rw [map_congr' fun i hi => sizeK_st (h.2.2 i hi)]
theorem sizeK_le {T : Tb} {n m : Nat} {k : Kd} (h : Rk T n k) (l : n ≤ m) : sizeK T m k = sizeK T n k := by
  induction l with
  | refl => rfl
  | step l ih => rw [sizeK_st (h.le l), ih]
theorem depthK_st {T : Tb} : ∀ {n : Nat} {k : Kd}, Rk T n k → depthK T (n + 1) k = depthK T n k
  | 0, _, h => h.elim
  | _ + 1, .num _, h => rfl
  | n + 1, .row m k, h => by
    show depthK T (n + 1) k = depthK T n k
    exact depthK_st h.2
  | n + 1, .shp i, h => by
    show 1 + maxL _ = 1 + maxL _
    rw [map_congr' fun p hp => depthK_st (h.2.2.2.2 p hp).2.2]
  | n + 1, .pick is, h => by
    show maxL _ = maxL _
    rw [map_congr' fun i hi => depthK_st (h.2.2 i hi)]

/-! ### the law's own sums over shapes -/
def joinedE (p s : List Nat) : List Nat := if s = [] then p else joinedL p s
theorem joinedE_L {p s : List Nat} (h : s ≠ []) : joinedE p s = joinedL p s := if_neg h
theorem joinedE_nil {p : List Nat} : joinedE p [] = p := if_pos rfl
def spLJ : Sp := fun vs H Q _ => ∃ (p s : List Nat), vs = [.str (S p), .str (S s)] ∧ p.length ≤ 100000 ∧ s.length ≤ 1000 ∧ Q (.str (S (joinedE p s))) H
def spJoined : Sp := fun vs H Q _ => ∃ (p s : List Nat), vs = [.str (S p), .str (S s)] ∧ s ≠ [] ∧ p.length ≤ 100000 ∧ s.length ≤ 1000 ∧ Q (.str (S (joinedL p s))) H
def spSize (K : PySem.W.Frag) (n : Nat) : Sp := fun vs H Q _ => ∃ (a t : Addr) (k : Kd) (T : Tb), vs = [.ref a, .ref t] ∧ KT [] H k a ∧ TblAt [] H t T ∧ Rk T n k ∧ ∀ H1, Same H H1 → Q (.int (sizeK T n k)) H1
def spDepth (K : PySem.W.Frag) (n : Nat) : Sp := fun vs H Q _ => ∃ (a t : Addr) (k : Kd) (T : Tb), vs = [.ref a, .ref t] ∧ KT [] H k a ∧ TblAt [] H t T ∧ Rk T n k ∧ ∀ H1, Same H H1 → Q (.int (depthK T n k)) H1
section
variable {P : Program} {w : World} {K : PySem.W.Frag} {mg : Str → Option Value} {base : Heap}
theorem ok_joined {f : Addr} {fd : FuncData} (F : Fun K "_law_joined" "_law_joined" s_law_joined f fd) (z_int : mg "int" = none) : FnOk P w K mg base CX0 1 f fd ["_law_path", "_law_step"] spLJ := by
  refine F.ok sc_law_joined (fun vs H Q E h => ?_) (fun cdv A outer s H vs Q E hr h => ?_)
  · obtain ⟨p, s, rfl, _⟩ := h
    rfl
  · obtain ⟨p, st, rfl, hp, hl, q⟩ := h
    refine ⟨_, (pss_one (ps_ret (pe_op op_add_str (pe_op op_add_str (pv 0) (pe_op op_mulS pe_str (pe_callTy call_int1R (by rfl) z_int (by decide +kernel) (pa_cons (pe_and (pe_cmpR op_ne (pv 0) pe_str (nomark _)) (pe_one (pe_cmpR op_ne (pv 1) pe_str (nomark _)))) pa_nil)))) (pv 1)))), ?_⟩
    walk_at "rd"
    have e0 : ∀ l : List Nat, (S l = Str.ofString "") = (l = []) := fun l => by
      rw [e_nix]
      exact propext ⟨fun h => S_inj h, fun h => congrArg S h⟩
    have l1 : (Str.ofString ".").length = 1 := rfl
    have em : ∀ z : Str, z ++ Str.empty = z := fun z => by
      rw [str_S z, show Str.empty = S [] from rfl, S_cat, List.append_nil]
    by_cases hs : st = []
    · subst hs
      rw [joinedE_nil] at q
      have ep : ∀ z : Str, z ++ S [] = z := em
      simp only [e0, not_true_eq_false, if_false]
      have w : (S p).length + Str.empty.length ≤ sizeLine ∧ (S p ++ Str.empty).length + (S []).length ≤ sizeLine ∧ Q (V.str (S p ++ Str.empty ++ S [])) H := ⟨by rw [S_len, show Str.empty.length = 0 from rfl, sizeLine_eq]; omega, by rw [em, S_len, S_len, sizeLine_eq]; simp; omega, by rw [em, ep]; exact q⟩
      by_cases g : p = []
      · rw [if_neg (fun h => h g)]
        exact .inr (.inl w)
      · rw [if_pos g]
        exact .inr (.inl ⟨trivial, w⟩)
    rw [joinedE_L hs] at q
    simp only [e0, hs, not_false_eq_true, if_true]
    unfold joinedL at q
    by_cases g : p = []
    · rw [if_pos g] at q
      rw [if_neg (fun h => h g)]
      subst g
      refine .inr (.inl ⟨by rw [sizeLine_eq]; decide, ?_, ?_⟩)
      · rw [em, S_len, S_len, sizeLine_eq]
        simp
        omega
      · rw [em, S_cat]
        exact q
    · rw [if_neg g] at q
      rw [if_pos g]
      refine .inr (.inr ⟨trivial, ?_, ?_, ?_⟩)
      · rw [S_len, l1, sizeLine_eq]
        omega
      · rw [e_dot, S_cat, S_len, S_len, List.length_append, sizeLine_eq]
        simp
        omega
      · rw [e_dot, S_cat, S_cat]
        exact q
theorem size_all {f : Addr} {fd : FuncData} (F : Fun K "_law_size" "_law_size" s_law_size f fd) (W : SelfD K mg f fd "_law_size" ["_law_kind_here", "_law_shapes_here"]) (z_max : mg "max" = none) (z_sum : mg "sum" = none) : ∀ n, FnOk P w K mg base CX0 (n + 1) f fd ["_law_kind_here", "_law_shapes_here"] (spSize K n)
  | 0 => by
    refine F.ok sc_law_size (fun vs H Q E h => ?_) (fun cdv A outer s H vs Q E hr h => ?_)
    · obtain ⟨a, t, k, T, rfl, _⟩ := h
      rfl
    · obtain ⟨a, t, k, T, rfl, _, _, h, _⟩ := h
      exact h.elim
  | n + 1 => by
    have D_law_size := W.dn (size_all F W z_max z_sum n)
    refine F.ok sc_law_size (fun vs H Q E h => ?_) (fun cdv A outer s H vs Q E hr h => ?_)
    · obtain ⟨a, t, k, T, rfl, _⟩ := h
      rfl
    · obtain ⟨a, t, k, T, rfl, hk, ht, hrk, q⟩ := h
      refine ⟨_, (pss_cons (ps_if (pt_cmpR op_eq (pe_ix (ix_tupK (K := K)) (pv 0) pe_int (fun _ _ => rfl)) pe_str (nomark _)) (pss_one (ps_ret (pe_ix (ix_tupK (K := K)) (pv 0) pe_int (fun _ _ => rfl)))) pss_nil)
      (pss_cons (ps_if (pt_cmpR op_eq (pe_ix (ix_tupK (K := K)) (pv 0) pe_int (fun _ _ => rfl)) pe_str (nomark _)) (pss_one (ps_ret (pe_op op_mul (pe_ix (ix_tupK (K := K)) (pv 0) pe_int (fun _ _ => rfl)) (pe_cd D_law_size (hr.mono (by first | decide | omega)) (by rfl) pass0 (pa_cons (pe_ix (ix_tupK (K := K)) (pv 0) pe_int (fun _ _ => rfl)) (pa_cons (pv 1) pa_nil)))))) pss_nil)
      (pss_cons (ps_if (pt_cmpR op_eq (pe_ix (ix_tupK (K := K)) (pv 0) pe_int (fun _ _ => rfl)) pe_str (nomark _)) (pss_one (ps_ret (pe_op op_add pe_int (pe_callB (cr_maxK rfl (K := K)) (by rfl) z_max (by decide +kernel) (pa_cons (pe_lc (own := [("_law_at", 2)]) (g := gName 2) (tt := tYes) rfl sc_law_size.nd (pi_listK (pe_ix (ix_tupK (K := K)) (pv 0) pe_int (fun _ _ => rfl)) (K := K)) (blkOk_by (own := [("_law_at", 2)]) (N := ["_law_kind_here", "_law_shapes_here", "_law_at", "_law_name", "_law_inner"]) (sc := defScope s_law_size) (by decide +kernel)) (fun _ _ _ _ _ => pg_name (i := 2) sc_law_size.nd rfl (Or.inl rfl)) (fun _ _ _ _ _ => pts_nil) (fun _ _ _ _ _ => (pe_cd D_law_size (hr.mono (by first | decide | omega)) (by rfl) pass0 (pa_cons (pe_tup (pa_cons pe_str (pa_cons (pv 2) pa_nil))) (pa_cons (pv 1) pa_nil))))) pa_nil))))) pss_nil)
      (pss_one (ps_ret (pe_callB (cr_sumK rfl (K := K)) (by rfl) z_sum (by decide +kernel) (pa_cons (pe_lc (own := [("_law_name", 3), ("_law_inner", 4)]) (g := gTup K 2 (gCons (gName 3) (gCons (gName 4) (gNil)))) (tt := tYes) rfl sc_law_size.nd (pi_listK (pe_ix (ix_tupK (K := K)) (pe_ix (ix_listK (K := K)) (pv 1) (pe_ix (ix_tupK (K := K)) (pv 0) pe_int (fun _ _ => rfl)) (fun _ _ => rfl)) pe_int (fun _ _ => rfl)) (K := K)) (blkOk_by (own := [("_law_name", 3), ("_law_inner", 4)]) (N := ["_law_kind_here", "_law_shapes_here", "_law_at", "_law_name", "_law_inner"]) (sc := defScope s_law_size) (by decide +kernel)) (fun _ _ _ _ _ => (pg_tupK (K := K) rfl (pgs_cons (pg_name (i := 3) sc_law_size.nd rfl (Or.inl rfl)) (pgs_cons (pg_name (i := 4) sc_law_size.nd rfl (Or.inl rfl)) pgs_nil)))) (fun _ _ _ _ _ => pts_nil) (fun _ _ _ _ _ => (pe_cd D_law_size (hr.mono (by first | decide | omega)) (by rfl) pass0 (pa_cons (pv 4) (pa_cons (pv 1) pa_nil))))) pa_nil))))))), ?_⟩
      walk_at "rd"
      have ht' := ht
      obtain ⟨xs, h1, h2⟩ := ht
      cases k with
      | num w =>
        obtain ⟨_, ha⟩ := hk
        exact ⟨_, seqT_of ha, _, rfl, rfl, iteP rfl ⟨_, seqT_of ha, _, rfl, q H (Same.refl H)⟩⟩
      | row m k =>
        obtain ⟨_, b, ha, hb⟩ := hk
        have := hrk.1
        exact ⟨_, seqT_of ha, _, rfl, rfl, iteN (by decide +kernel) ⟨_, seqT_of ha, _, rfl, rfl, iteP rfl ⟨_, seqT_of ha, _, rfl, _, seqT_of ha, _, rfl, b, t, k, T, rfl, hb, ht', hrk.2, fun H1 s1 => ⟨_, rfl, _, rfl, .inl ⟨by omega, by omega⟩, q H1 s1⟩⟩⟩⟩
      | pick is =>
        obtain ⟨_, l, _, ha, hl⟩ := hk
        refine ⟨_, seqT_of ha, _, rfl, rfl, iteN (by decide +kernel) ⟨_, seqT_of ha, _, rfl, rfl, iteN (by decide +kernel) ⟨_, seqT_of ha, _, rfl, rfl, iteP rfl ⟨_, seqT_of ha, _, rfl, l, rfl, ⟨_, seq_of hl⟩, ?_⟩⟩⟩⟩
        refine Cmp.pureD is (fun i => V.int (sizeK T n (.shp i))) (seq_of hl) (by rw [List.length_map]) (by rw [List.length_map]; have := hrk.2.1; omega) (fun i x d H2 R hx hd s2 r => ?_) (fun l2 H2 n2 s2 h2 => ?_)
        · rw [List.getElem?_map, hd] at hx
          obtain rfl := Option.some.inj hx
          refine ⟨rfl, ?_⟩
          walk_at "rd"
          exact ⟨by decide, New.intro fun p H3 n3 s3 h3 => ⟨p, t, .shp d, T, rfl, ⟨List.not_mem_nil, h3⟩, ht'.same (s2.trans s3), hrk.2.2 d (List.mem_of_getElem? hd), fun H4 s4 => r H4 (s3.trans s4)⟩⟩
        · refine ⟨l2, rfl, is.map (fun i => sizeK T n (.shp i)), by rw [List.map_map]; exact seq_of h2, by rw [List.length_map]; exact List.length_pos_iff.mpr hrk.1, fun m hm hmax => ?_⟩
          rw [maxL_eq hm hmax fun x hx => by
            obtain ⟨i, _, rfl⟩ := List.mem_map.mp hx
            exact sizeK_nn T n _]
          exact q H2 s2
      | shp i =>
        obtain ⟨_, ha⟩ := hk
        obtain ⟨b, g, ys, hx, _, _, hb, hg, hf⟩ := h2.shape hrk.1
        refine ⟨_, seqT_of ha, _, rfl, rfl, iteN (by decide +kernel) ⟨_, seqT_of ha, _, rfl, rfl, iteN (by decide +kernel) ⟨_, seqT_of ha, _, rfl, rfl, iteN (by decide +kernel) ⟨_, seqT_of ha, _, rfl, _, _, rfl, seq_of h1, _, atI_nat hx, _, rfl, _, seqT_of hb, _, rfl, g, rfl, ⟨_, seq_of hg⟩, ?_⟩⟩⟩⟩
        have hlen := Paired.length hf
        refine Cmp.pureD (flds T i) (fun p => V.int (sizeK T n p.2)) (seq_of hg) hlen (by have := hrk.2.2.1; omega) (fun j x d H2 R hx hd s2 r => ?_) (fun l2 H2 n2 s2 h2 => ?_)
        · obtain ⟨d', hd', e, c, rfl, _, he, hc⟩ := pget hf hx
          rw [hd] at hd'
          obtain rfl := Option.some.inj hd'
          refine two_at (s2 _ _ he) ⟨rfl, ?_⟩
          walk_at "rd"
          exact ⟨c, t, d.2, T, rfl, hc.same s2, ht'.same s2, (hrk.2.2.2.2 d (List.mem_of_getElem? hd)).2.2, fun H4 s4 => r H4 s4⟩
        · exact ⟨l2, rfl, (flds T i).map (fun p : List Nat × Kd => sizeK T n p.2), by rw [List.map_map]; exact seq_of h2, q H2 s2⟩
theorem ok_size {f : Addr} {fd : FuncData} (F : Fun K "_law_size" "_law_size" s_law_size f fd) (W_law_size : SelfD K mg f fd "_law_size" ["_law_kind_here", "_law_shapes_here"]) (z_max : mg "max" = none) (z_sum : mg "sum" = none) : FnOk P w K mg base CX0 25 f fd ["_law_kind_here", "_law_shapes_here"] (spSize K 24) := by
  exact size_all F W_law_size z_max z_sum 24
theorem depth_all {f : Addr} {fd : FuncData} (F : Fun K "_law_depth" "_law_depth" s_law_depth f fd) (W : SelfD K mg f fd "_law_depth" ["_law_kind_here", "_law_shapes_here"]) (z_max : mg "max" = none) : ∀ n, FnOk P w K mg base CX0 (n + 1) f fd ["_law_kind_here", "_law_shapes_here"] (spDepth K n)
  | 0 => by
    refine F.ok sc_law_depth (fun vs H Q E h => ?_) (fun cdv A outer s H vs Q E hr h => ?_)
    · obtain ⟨a, t, k, T, rfl, _⟩ := h
      rfl
    · obtain ⟨a, t, k, T, rfl, _, _, h, _⟩ := h
      exact h.elim
  | n + 1 => by
    have D_law_depth := W.dn (depth_all F W z_max n)
    refine F.ok sc_law_depth (fun vs H Q E h => ?_) (fun cdv A outer s H vs Q E hr h => ?_)
    · obtain ⟨a, t, k, T, rfl, _⟩ := h
      rfl
    · obtain ⟨a, t, k, T, rfl, hk, ht, hrk, q⟩ := h
      refine ⟨_, (pss_cons (ps_if (pt_cmpR op_eq (pe_ix (ix_tupK (K := K)) (pv 0) pe_int (fun _ _ => rfl)) pe_str (nomark _)) (pss_one (ps_ret pe_int)) pss_nil)
      (pss_cons (ps_if (pt_cmpR op_eq (pe_ix (ix_tupK (K := K)) (pv 0) pe_int (fun _ _ => rfl)) pe_str (nomark _)) (pss_one (ps_ret (pe_cd D_law_depth (hr.mono (by first | decide | omega)) (by rfl) pass0 (pa_cons (pe_ix (ix_tupK (K := K)) (pv 0) pe_int (fun _ _ => rfl)) (pa_cons (pv 1) pa_nil))))) pss_nil)
      (pss_cons (ps_if (pt_cmpR op_eq (pe_ix (ix_tupK (K := K)) (pv 0) pe_int (fun _ _ => rfl)) pe_str (nomark _)) (pss_one (ps_ret (pe_callB (cr_maxK rfl (K := K)) (by rfl) z_max (by decide +kernel) (pa_cons (pe_lc (own := [("_law_at", 2)]) (g := gName 2) (tt := tYes) rfl sc_law_depth.nd (pi_listK (pe_ix (ix_tupK (K := K)) (pv 0) pe_int (fun _ _ => rfl)) (K := K)) (blkOk_by (own := [("_law_at", 2)]) (N := ["_law_kind_here", "_law_shapes_here", "_law_at", "_law_name", "_law_inner"]) (sc := defScope s_law_depth) (by decide +kernel)) (fun _ _ _ _ _ => pg_name (i := 2) sc_law_depth.nd rfl (Or.inl rfl)) (fun _ _ _ _ _ => pts_nil) (fun _ _ _ _ _ => (pe_cd D_law_depth (hr.mono (by first | decide | omega)) (by rfl) pass0 (pa_cons (pe_tup (pa_cons pe_str (pa_cons (pv 2) pa_nil))) (pa_cons (pv 1) pa_nil))))) pa_nil)))) pss_nil)
      (pss_one (ps_ret (pe_op op_add pe_int (pe_callB (cr_maxK rfl (K := K)) (by rfl) z_max (by decide +kernel) (pa_cons (pe_lc (own := [("_law_name", 3), ("_law_inner", 4)]) (g := gTup K 2 (gCons (gName 3) (gCons (gName 4) (gNil)))) (tt := tYes) rfl sc_law_depth.nd (pi_listK (pe_ix (ix_tupK (K := K)) (pe_ix (ix_listK (K := K)) (pv 1) (pe_ix (ix_tupK (K := K)) (pv 0) pe_int (fun _ _ => rfl)) (fun _ _ => rfl)) pe_int (fun _ _ => rfl)) (K := K)) (blkOk_by (own := [("_law_name", 3), ("_law_inner", 4)]) (N := ["_law_kind_here", "_law_shapes_here", "_law_at", "_law_name", "_law_inner"]) (sc := defScope s_law_depth) (by decide +kernel)) (fun _ _ _ _ _ => (pg_tupK (K := K) rfl (pgs_cons (pg_name (i := 3) sc_law_depth.nd rfl (Or.inl rfl)) (pgs_cons (pg_name (i := 4) sc_law_depth.nd rfl (Or.inl rfl)) pgs_nil)))) (fun _ _ _ _ _ => pts_nil) (fun _ _ _ _ _ => (pe_cd D_law_depth (hr.mono (by first | decide | omega)) (by rfl) pass0 (pa_cons (pv 4) (pa_cons (pv 1) pa_nil))))) pa_nil)))))))), ?_⟩
      walk_at "rd"
      have ht' := ht
      obtain ⟨xs, h1, h2⟩ := ht
      cases k with
      | num w =>
        obtain ⟨_, ha⟩ := hk
        exact ⟨_, seqT_of ha, _, rfl, rfl, iteP rfl (q H (Same.refl H))⟩
      | row m k =>
        obtain ⟨_, b, ha, hb⟩ := hk
        exact ⟨_, seqT_of ha, _, rfl, rfl, iteN (by decide +kernel) ⟨_, seqT_of ha, _, rfl, rfl, iteP rfl ⟨_, seqT_of ha, _, rfl, b, t, k, T, rfl, hb, ht', hrk.2, fun H1 s1 => q H1 s1⟩⟩⟩
      | pick is =>
        obtain ⟨_, l, _, ha, hl⟩ := hk
        refine ⟨_, seqT_of ha, _, rfl, rfl, iteN (by decide +kernel) ⟨_, seqT_of ha, _, rfl, rfl, iteN (by decide +kernel) ⟨_, seqT_of ha, _, rfl, rfl, iteP rfl ⟨_, seqT_of ha, _, rfl, l, rfl, ⟨_, seq_of hl⟩, ?_⟩⟩⟩⟩
        refine Cmp.pureD is (fun i => V.int (depthK T n (.shp i))) (seq_of hl) (by rw [List.length_map]) (by rw [List.length_map]; have := hrk.2.1; omega) (fun i x d H2 R hx hd s2 r => ?_) (fun l2 H2 n2 s2 h2 => ?_)
        · rw [List.getElem?_map, hd] at hx
          obtain rfl := Option.some.inj hx
          refine ⟨rfl, ?_⟩
          walk_at "rd"
          exact ⟨by decide, New.intro fun p H3 n3 s3 h3 => ⟨p, t, .shp d, T, rfl, ⟨List.not_mem_nil, h3⟩, ht'.same (s2.trans s3), hrk.2.2 d (List.mem_of_getElem? hd), fun H4 s4 => r H4 (s3.trans s4)⟩⟩
        · refine ⟨l2, rfl, is.map (fun i => depthK T n (.shp i)), by rw [List.map_map]; exact seq_of h2, by rw [List.length_map]; exact List.length_pos_iff.mpr hrk.1, fun m hm hmax => ?_⟩
          rw [maxL_eq hm hmax fun x hx => by
            obtain ⟨i, _, rfl⟩ := List.mem_map.mp hx
            exact depthK_nn T n _]
          exact q H2 s2
      | shp i =>
        obtain ⟨_, ha⟩ := hk
        obtain ⟨b, g, ys, hx, _, _, hb, hg, hf⟩ := h2.shape hrk.1
        refine ⟨_, seqT_of ha, _, rfl, rfl, iteN (by decide +kernel) ⟨_, seqT_of ha, _, rfl, rfl, iteN (by decide +kernel) ⟨_, seqT_of ha, _, rfl, rfl, iteN (by decide +kernel) ⟨_, seqT_of ha, _, rfl, _, _, rfl, seq_of h1, _, atI_nat hx, _, rfl, _, seqT_of hb, _, rfl, g, rfl, ⟨_, seq_of hg⟩, ?_⟩⟩⟩⟩
        have hlen := Paired.length hf
        refine Cmp.pureD (flds T i) (fun p => V.int (depthK T n p.2)) (seq_of hg) hlen (by have := hrk.2.2.1; omega) (fun j x d H2 R hx hd s2 r => ?_) (fun l2 H2 n2 s2 h2 => ?_)
        · obtain ⟨d', hd', e, c, rfl, _, he, hc⟩ := pget hf hx
          rw [hd] at hd'
          obtain rfl := Option.some.inj hd'
          refine two_at (s2 _ _ he) ⟨rfl, ?_⟩
          walk_at "rd"
          exact ⟨c, t, d.2, T, rfl, hc.same s2, ht'.same s2, (hrk.2.2.2.2 d (List.mem_of_getElem? hd)).2.2, fun H4 s4 => r H4 s4⟩
        · refine ⟨l2, rfl, (flds T i).map (fun p => depthK T n p.2), by rw [List.map_map]; exact seq_of h2, by rw [List.length_map]; exact List.length_pos_iff.mpr hrk.2.2.2.1, fun m hm hmax => ?_⟩
          rw [maxL_eq hm hmax fun x hx => by
            obtain ⟨i, _, rfl⟩ := List.mem_map.mp hx
            exact depthK_nn T n _]
          exact q H2 s2
theorem ok_depth {f : Addr} {fd : FuncData} (F : Fun K "_law_depth" "_law_depth" s_law_depth f fd) (W_law_depth : SelfD K mg f fd "_law_depth" ["_law_kind_here", "_law_shapes_here"]) (z_max : mg "max" = none) : FnOk P w K mg base CX0 25 f fd ["_law_kind_here", "_law_shapes_here"] (spDepth K 24) := by
  exact depth_all F W_law_depth z_max 24
theorem fm_snoc {α : Type} {n : Nat} {f : Nat → List α} : (List.range (n + 1)).flatMap f = (List.range n).flatMap f ++ f n := by
  rw [List.range_succ, List.flatMap_append]
  simp
theorem fm_le {α : Type} {f : Nat → List α} {i m : Nat} (h : i ≤ m) : ((List.range i).flatMap f).length ≤ ((List.range m).flatMap f).length := by
  induction h with
  | refl => exact Nat.le_refl _
  | step _ ih =>
    rw [fm_snoc, List.length_append]
    omega
theorem fmL_snoc {α β : Type} {l : List β} {i : Nat} {x : β} {f : β → List α} (h : l[i]? = some x) : (l.take (i + 1)).flatMap f = (l.take i).flatMap f ++ f x := by
  rw [take_snoc h, List.flatMap_append]
  simp
theorem fmL_le {α β : Type} {l : List β} {f : β → List α} (i : Nat) : ((l.take i).flatMap f).length ≤ (l.flatMap f).length := by
  have e : l.flatMap f = (l.take i).flatMap f ++ (l.drop i).flatMap f := by rw [← List.flatMap_append, List.take_append_drop]
  rw [e, List.length_append]
  omega
theorem joinedL_len (p s : List Nat) : (joinedL p s).length ≤ p.length + 1 + s.length := by
  unfold joinedL
  split
  · omega
  · simp
    omega
theorem numL_3 {i : Nat} (h : i ≤ 1000) : (TL.numL i).length ≤ 4 := TL.numL_len (by decide) (by omega)
/-- a list of units on the heap -/
def UnL (K : PySem.W.Frag) (H : Hp) (l : Addr) (us : List Un) : Prop := ∃ xs, H l = some (.lst xs) ∧ Tups K H xs (us.map unV)
theorem UnL.same {H H1 : Hp} {l : Addr} {us : List Un} (h : UnL K H l us) (s : Same H H1) : UnL K H1 l us := let ⟨xs, h1, h2⟩ := h; ⟨xs, s _ _ h1, h2.same s⟩
theorem UnL.len {H : Hp} {l : Addr} {us : List Un} {xs : List V} (h1 : H l = some (.lst xs)) (h : UnL K H l us) : xs.length = us.length := by
  obtain ⟨ys, e, t⟩ := h
  rw [h1] at e
  cases e
  have := t.len
  rw [List.length_map] at this
  exact this
def spUnits (K : PySem.W.Frag) (n : Nat) : Sp := fun vs H Q _ => ∃ (a t : Addr) (k : Kd) (T : Tb) (p : List Nat), vs = [.ref a, .ref t, .str (S p)] ∧ KT [] H k a ∧ TblAt [] H t T ∧ Rk T n k ∧ n ≤ 24 ∧ p.length + 20 * n ≤ 1000 ∧ (unitsK T n k p).length ≤ 100000 ∧ ∀ l H1, H l = none → Same H H1 → UnL K H1 l (unitsK T n k p) → Q (.ref l) H1
theorem units_all {f : Addr} {fd : FuncData} (F : Fun K "_law_units" "_law_units" s_law_units f fd) (W : SelfD K mg f fd "_law_units" ["_law_kind_here", "_law_shapes_here", "_law_path"]) (z_range : mg "range" = none) (z_str : mg "str" = none) (D_law_joined : Dn P w K mg base CX0 1 "_law_joined" ["_law_path", "_law_step"] spLJ) (D_law_size : Dn P w K mg base CX0 25 "_law_size" ["_law_kind_here", "_law_shapes_here"] (spSize K 24)) : ∀ n, FnOk P w K mg base CX0 (n + 26) f fd ["_law_kind_here", "_law_shapes_here", "_law_path"] (spUnits K n)
  | 0 => by
    refine F.ok sc_law_units (fun vs H Q E h => ?_) (fun cdv A outer s H vs Q E hr h => ?_)
    · obtain ⟨a, t, k, T, p, rfl, _⟩ := h
      rfl
    · obtain ⟨a, t, k, T, p, rfl, _, _, h, _⟩ := h
      exact h.elim
  | n + 1 => by
    have D_law_units := W.dn (units_all F W z_range z_str D_law_joined D_law_size n)
    refine F.ok sc_law_units (fun vs H Q E h => ?_) (fun cdv A outer s H vs Q E hr h => ?_)
    · obtain ⟨a, t, k, T, p, rfl, _⟩ := h
      rfl
    · obtain ⟨a, t, k, T, p, rfl, hk, ht, hrk, hn, hp, hl, q⟩ := h
      refine ⟨_, (pss_cons (ps_if (pt_cmpR op_eq (pe_ix (ix_tupK (K := K)) (pv 0) pe_int (fun _ _ => rfl)) pe_str (nomark _)) (pss_one (ps_ret (pe_lst (pa_cons (pe_tup (pa_cons (pv 2) (pa_cons (pe_ix (ix_tupK (K := K)) (pv 0) pe_int (fun _ _ => rfl)) (pa_cons pe_str pa_nil)))) pa_nil)))) pss_nil)
      (pss_cons (ps_if (pt_cmpR op_eq (pe_ix (ix_tupK (K := K)) (pv 0) pe_int (fun _ _ => rfl)) pe_str (nomark _)) (pss_one (ps_ret (pe_lst (pa_cons (pe_tup (pa_cons (pe_cd D_law_joined (hr.mono (by first | decide | omega)) (by rfl) pass0 (pa_cons (pv 2) (pa_cons pe_str pa_nil))) (pa_cons pe_int (pa_cons pe_str pa_nil)))) (pa_cons (pe_tup (pa_cons (pv 2) (pa_cons (pe_op op_sub (pe_cd D_law_size (hr.mono (by first | decide | omega)) (by rfl) pass0 (pa_cons (pv 0) (pa_cons (pv 1) pa_nil))) pe_int) (pa_cons pe_str pa_nil)))) pa_nil))))) pss_nil)
      (pss_cons (ps_set (i := 3) sc_law_units.nd rfl (by first | exact Or.inl rfl | exact Or.inr rfl) (pe_lst pa_nil))
      (pss_cons (ps_if (pt_cmpR op_eq (pe_ix (ix_tupK (K := K)) (pv 0) pe_int (fun _ _ => rfl)) pe_str (nomark _)) (pss_one (ps_for PassesOwn.never rfl (pi_rangeL1 (by rfl) z_range (pa_cons (pe_ix (ix_tupK (K := K)) (pv 0) pe_int (fun _ _ => rfl)) pa_nil)) (pg_name (i := 4) sc_law_units.nd rfl (by first | exact Or.inl rfl | exact Or.inr rfl)) (pss_one (ps_set (i := 3) sc_law_units.nd rfl (by first | exact Or.inl rfl | exact Or.inr rfl) (pe_op (op_catS (K := K)) (pv 3) (pe_cd D_law_units (hr.mono (by first | decide | omega)) (by rfl) pass0 (pa_cons (pe_ix (ix_tupK (K := K)) (pv 0) pe_int (fun _ _ => rfl)) (pa_cons (pv 1) (pa_cons (pe_cd D_law_joined (hr.mono (by first | decide | omega)) (by rfl) pass0 (pa_cons (pv 2) (pa_cons (pe_callTy call_strI (by rfl) z_str (by decide +kernel) (pa_cons (pv 4) pa_nil)) pa_nil))) pa_nil))))))))) (pss_one (ps_for PassesOwn.never rfl (pi_listK (pe_ix (ix_tupK (K := K)) (pe_ix (ix_listK (K := K)) (pv 1) (pe_ix (ix_tupK (K := K)) (pv 0) pe_int (fun _ _ => rfl)) (fun _ _ => rfl)) pe_int (fun _ _ => rfl)) (K := K)) (pg_tup rfl (pgs_cons (pg_name (i := 5) sc_law_units.nd rfl (by first | exact Or.inl rfl | exact Or.inr rfl)) (pgs_cons (pg_name (i := 6) sc_law_units.nd rfl (by first | exact Or.inl rfl | exact Or.inr rfl)) pgs_nil))) (pss_one (ps_set (i := 3) sc_law_units.nd rfl (by first | exact Or.inl rfl | exact Or.inr rfl) (pe_op (op_catS (K := K)) (pv 3) (pe_cd D_law_units (hr.mono (by first | decide | omega)) (by rfl) pass0 (pa_cons (pv 6) (pa_cons (pv 1) (pa_cons (pe_cd D_law_joined (hr.mono (by first | decide | omega)) (by rfl) pass0 (pa_cons (pv 2) (pa_cons (pv 5) pa_nil))) pa_nil))))))))))
      (pss_one (ps_ret (pv 3))))))), ?_⟩
      walk_at "rd"
      have ht' := ht
      obtain ⟨xs, h1, h2⟩ := ht
      cases k with
      | num w =>
        obtain ⟨_, ha⟩ := hk
        refine ⟨_, seqT_of ha, _, rfl, rfl, iteP rfl ⟨_, seqT_of ha, _, rfl, by decide, New.intro fun u H1 n1 s1 g1 => ⟨by decide, New.intro fun l H2 n2 s2 g2 => ?_⟩⟩⟩
        refine q l H2 (s1.free n2) (s1.trans s2) ⟨_, g2, .cons ⟨u, rfl, seqT_of ?_⟩ .nil⟩
        rw [s2 _ _ g1, e_num]
        rfl
      | pick is =>
        have hk0 := hk
        obtain ⟨_, l, _, ha, hl'⟩ := hk
        refine ⟨_, seqT_of ha, _, rfl, rfl, iteN (by decide +kernel) ⟨_, seqT_of ha, _, rfl, rfl, iteP rfl ⟨p, tagW', by rw [e_tag], by omega, by decide, ?_⟩⟩⟩
        rw [joinedE_L (by decide)]
        refine ⟨by decide, New.intro fun u H1 n1 s1 g1 => ⟨a, t, .pick is, T, rfl, hk0.same s1, ht'.same s1, hrk.le hn, fun H2 s2 => ⟨_, rfl, by decide, New.intro fun u2 H3 n3 s3 g3 => ⟨by decide, New.intro fun l2 H4 n4 s4 g4 => ?_⟩⟩⟩⟩
        have e := sizeK_le hrk hn
        rw [e, show sizeK T (n + 1) (.pick is) - 1 = maxL (is.map fun i => sizeK T n (.shp i)) from by show 1 + _ - 1 = _; omega] at g3
        refine q l2 H4 ((s1.trans (s2.trans s3)).free n4) (s1.trans (s2.trans (s3.trans s4))) ⟨_, g4, .cons ⟨u, rfl, seqT_of ?_⟩ (.cons ⟨u2, rfl, seqT_of ?_⟩ .nil)⟩
        · rw [(s2.trans (s3.trans s4)) _ _ g1, e_tag]
          rfl
        · rw [s4 _ _ g3, e_pick]
          rfl
      | row m k =>
        obtain ⟨_, b, ha, hb⟩ := hk
        have hl2 : ((List.range m).flatMap fun i => unitsK T n k (joinedL p (TL.numL i))).length ≤ 100000 := hl
        have hm := hrk.1
        refine ⟨_, seqT_of ha, _, rfl, rfl, iteN (by decide +kernel) ⟨_, seqT_of ha, _, rfl, rfl, iteN (by decide +kernel) ⟨by decide, New.intro fun l0 H1 n1 s1 g1 => ⟨_, seqT_of (s1 _ _ ha), _, rfl, rfl, iteP rfl ⟨_, seqT_of (s1 _ _ ha), _, rfl, _, rfl, ?_⟩⟩⟩⟩⟩
        refine Loop.range (fun i σ HA => ∃ l y4 y5 y6, σ = [some (.ref a), some (.ref t), some (.str (S p)), some (.ref l), y4, y5, y6] ∧ H l = none ∧ Same H HA ∧ UnL K HA l ((List.range i).flatMap fun i => unitsK T n k (joinedL p (TL.numL i)))) ⟨l0, _, _, _, rfl, n1, s1, [], g1, .nil⟩ ?_ ?_
        · rintro i σ HA hi ⟨l, y4, y5, y6, rfl, nl, sA, uA⟩
          have hi' : i < m := by rw [Int.toNat_natCast] at hi; exact hi
          walk_at "rd"
          rw [Int.zero_add]
          refine ⟨_, seqT_of (sA _ _ ha), _, rfl, str_small (by omega), ?_⟩
          rw [num_S]
          have h3 := numL_3 (i := i) (by omega)
          refine ⟨p, TL.numL i, rfl, by omega, by omega, ?_⟩
          rw [joinedE_L (TL.numL_ne i)]
          have l1 := fm_le (f := fun i => unitsK T n k (joinedL p (TL.numL i))) (show i + 1 ≤ m by omega)
          rw [fm_snoc, List.length_append] at l1
          have l2 := joinedL_len p (TL.numL i)
          refine ⟨b, t, k, T, _, rfl, hb.same sA, ht'.same sA, hrk.2, by omega, by omega, by omega, fun l3 H3 n3 s3 u3 => ?_⟩
          have uA3 := uA.same s3
          obtain ⟨xa, ga, ta⟩ := uA3
          obtain ⟨xb, gb, tb⟩ := u3
          have e1 := UnL.len ga (uA.same s3)
          have e2 := UnL.len gb ⟨xb, gb, tb⟩
          refine ⟨_, rfl, _, seq_of ga, _, seq_of gb, by rw [sizeLine_eq]; omega, New.intro fun l4 H4 n4 s4 g4 => ⟨(sA.trans s3).free n4, sA.trans (s3.trans s4), _, g4, ?_⟩⟩
          rw [fm_snoc, List.map_append]
          exact (ta.same s4).append (tb.same s4)
        · rintro σ HA ⟨l, y4, y5, y6, rfl, nl, sA, uA⟩
          walk_at "rd"
          rw [Int.toNat_natCast] at uA
          exact q l HA nl sA uA
      | shp i =>
        obtain ⟨_, ha⟩ := hk
        obtain ⟨b, g, ys, hx, _, _, hb, hg, hf⟩ := h2.shape hrk.1
        have hl2 : ((flds T i).flatMap fun q => unitsK T n q.2 (joinedL p q.1)).length ≤ 100000 := hl
        refine ⟨_, seqT_of ha, _, rfl, rfl, iteN (by decide +kernel) ⟨_, seqT_of ha, _, rfl, rfl, iteN (by decide +kernel) ⟨by decide, New.intro fun l0 H1 n1 s1 g1 => ⟨_, seqT_of (s1 _ _ ha), _, rfl, rfl, iteN (by decide +kernel) ⟨_, seqT_of (s1 _ _ ha), _, rfl, _, _, rfl, seq_of (s1 _ _ h1), _, atI_nat hx, _, rfl, _, seqT_of (s1 _ _ hb), _, rfl, g, rfl, ⟨_, seq_of (s1 _ _ hg)⟩, ?_⟩⟩⟩⟩⟩
        have hlen := Paired.length hf
        refine Loop.list (xs := ys) (fun j σ HA => ∃ l y4 y5 y6, σ = [some (.ref a), some (.ref t), some (.str (S p)), some (.ref l), y4, y5, y6] ∧ H l = none ∧ Same H HA ∧ UnL K HA l (((flds T i).take j).flatMap fun q => unitsK T n q.2 (joinedL p q.1))) ⟨l0, _, _, _, rfl, n1, s1, [], g1, .nil⟩ ?_ ?_ ?_
        · rintro j σ HA _ ⟨l, y4, y5, y6, rfl, nl, sA, uA⟩
          exact seq_of (sA _ _ hg)
        · rintro j x σ HA hx ⟨l, y4, y5, y6, rfl, nl, sA, uA⟩
          obtain ⟨d, hd, e, c, rfl, _, he, hc⟩ := pget hf hx
          obtain ⟨r1, r2, r3⟩ := hrk.2.2.2.2 d (List.mem_of_getElem? hd)
          refine two_at (sA _ _ he) ?_
          walk_at "rd"
          refine ⟨p, d.1, rfl, by omega, by omega, ?_⟩
          rw [joinedE_L r2]
          have l1 := fmL_le (l := flds T i) (f := fun q => unitsK T n q.2 (joinedL p q.1)) (j + 1)
          rw [fmL_snoc hd, List.length_append] at l1
          have l2 := joinedL_len p d.1
          refine ⟨c, t, d.2, T, _, rfl, hc.same sA, ht'.same sA, r3, by omega, by omega, by omega, fun l3 H3 n3 s3 u3 => ?_⟩
          have uA3 := uA.same s3
          obtain ⟨xa, ga, ta⟩ := uA3
          obtain ⟨xb, gb, tb⟩ := u3
          have e1 := UnL.len ga (uA.same s3)
          have e2 := UnL.len gb ⟨xb, gb, tb⟩
          refine ⟨_, rfl, _, seq_of ga, _, seq_of gb, by rw [sizeLine_eq]; omega, New.intro fun l4 H4 n4 s4 g4 => ⟨(sA.trans s3).free n4, sA.trans (s3.trans s4), _, g4, ?_⟩⟩
          rw [fmL_snoc hd, List.map_append]
          exact (ta.same s4).append (tb.same s4)
        · rintro σ HA ⟨l, y4, y5, y6, rfl, nl, sA, uA⟩
          walk_at "rd"
          rw [hlen, List.take_length] at uA
          exact q l HA nl sA uA
theorem ok_units {f : Addr} {fd : FuncData} (F : Fun K "_law_units" "_law_units" s_law_units f fd) (W_law_units : SelfD K mg f fd "_law_units" ["_law_kind_here", "_law_shapes_here", "_law_path"]) (z_range : mg "range" = none) (z_str : mg "str" = none) (D_law_joined : Dn P w K mg base CX0 1 "_law_joined" ["_law_path", "_law_step"] spLJ) (D_law_size : Dn P w K mg base CX0 25 "_law_size" ["_law_kind_here", "_law_shapes_here"] (spSize K 24)) : FnOk P w K mg base CX0 50 f fd ["_law_kind_here", "_law_shapes_here", "_law_path"] (spUnits K 24) := by
  exact units_all F W_law_units z_range z_str D_law_joined D_law_size 24
end

/-! ### the law's texts of shapes -/
theorem joinL2 (sep a b : List Nat) : TL.joinL sep [a, b] = a ++ (sep ++ b) := rfl
theorem joinLc (sep a b : List Nat) (r : List (List Nat)) : TL.joinL sep (a :: b :: r) = a ++ (sep ++ TL.joinL sep (b :: r)) := rfl
theorem joinL_len (c : Nat) : ∀ ws : List (List Nat), (TL.joinL [c] ws).length ≤ (ws.map (·.length)).sum + ws.length
  | [] => by simp [TL.joinL]
  | [a] => by
    show a.length ≤ _
    simp
  | a :: b :: r => by
    have ih := joinL_len c (b :: r)
    rw [joinLc, List.length_append, List.length_append]
    simp only [List.map_cons, List.sum_cons, List.length_cons, List.length_nil] at ih ⊢
    omega
theorem sum_le {l : List Nat} {b : Nat} (h : ∀ x ∈ l, x ≤ b) : l.sum ≤ b * l.length := by
  induction l with
  | nil => simp
  | cons a r ih =>
    have h1 := h a List.mem_cons_self
    have h2 := ih fun x hx => h x (List.mem_cons_of_mem _ hx)
    rw [List.sum_cons, List.length_cons, Nat.mul_succ]
    omega
theorem wordsK_ne (T : Tb) : ∀ k : Kd, ∃ a r, wordsK T k = a :: r
  | .num _ => ⟨_, _, rfl⟩
  | .row _ _ => ⟨_, _, rfl⟩
  | .shp _ => ⟨_, _, rfl⟩
  | .pick _ => ⟨_, _, rfl⟩
theorem textK_len {T : Tb} : ∀ {n : Nat} {k : Kd}, Rk T n k → (textK T k).length ≤ 1200 + 20 * n
  | 0, _, h => h.elim
  | n + 1, .num w, h => by
    have h : w ≤ 1000 := h
    have := numL_3 h
    show (numW ++ ([32] ++ TL.numL w)).length ≤ _
    simp [numW]
    omega
  | n + 1, .row m k, h => by
    have := numL_3 h.1
    have ih := textK_len h.2
    obtain ⟨a, r, e⟩ := wordsK_ne T k
    unfold textK at ih ⊢
    show (TL.joinL [32] (rowW :: TL.numL m :: wordsK T k)).length ≤ _
    rw [e] at ih ⊢
    rw [joinLc, joinLc]
    simp [rowW] at ih ⊢
    omega
  | n + 1, .shp i, h => by
    have := h.2.1
    show (nameT T i).length ≤ _
    omega
  | n + 2, .pick is, h => by
    have h1 := h.2.1
    have := joinL_len 32 (pickW' :: is.map (nameT T))
    have h3 : ((is.map (nameT T)).map (·.length)).sum ≤ 10 * ((is.map (nameT T)).map (·.length)).length := sum_le fun x hx => by
      obtain ⟨y, hy, rfl⟩ := List.mem_map.mp hx
      obtain ⟨i, hi, rfl⟩ := List.mem_map.mp hy
      exact (h.2.2 i hi).2.1
    show (TL.joinL [32] (pickW' :: is.map (nameT T))).length ≤ _
    simp only [List.map_cons, List.sum_cons, List.length_cons, List.length_map] at this h3
    have e : pickW'.length = 4 := rfl
    omega
  | 1, .pick is, h => absurd (h.2.2 _ (List.head_mem h.1)) (fun x => x.elim)
def spKText (K : PySem.W.Frag) (n : Nat) : Sp := fun vs H Q _ => ∃ (a t : Addr) (k : Kd) (T : Tb), vs = [.ref a, .ref t] ∧ KT [] H k a ∧ TblAt [] H t T ∧ Rk T n k ∧ n ≤ 24 ∧ ∀ H1, Same H H1 → Q (.str (S (textK T k))) H1
def okT (T : Tb) : Prop := T.length ≤ 10 ∧ T ≠ [] ∧ ∀ i, i < T.length → Rk T 24 (.shp i)
def spText (K : PySem.W.Frag) : Sp := fun vs H Q _ => ∃ (t : Addr) (T : Tb), vs = [.ref t] ∧ TblAt [] H t T ∧ okT T ∧ ∀ H1, Same H H1 → Q (.str (S (textT T))) H1
def mainK (T : Tb) : Kd := .shp (T.length - 1)
def fitsB (T : Tb) : Bool := decide (sizeK T 24 (mainK T) ≤ 64) && decide ((unitsK T 24 (mainK T) []).length ≤ 40) && decide (depthK T 24 (mainK T) ≤ 4)
def spFits (K : PySem.W.Frag) : Sp := fun vs H Q _ => ∃ (t : Addr) (T : Tb), vs = [.ref t] ∧ TblAt [] H t T ∧ T ≠ [] ∧ Rk T 24 (mainK T) ∧ (unitsK T 24 (mainK T) []).length ≤ 100000 ∧ ∀ H1, Same H H1 → Q (.bl (fitsB T)) H1
section
variable {P : Program} {w : World} {K : PySem.W.Frag} {mg : Str → Option Value} {base : Heap}
theorem ok_fits {f : Addr} {fd : FuncData} (F : Fun K "_law_fits" "_law_fits" s_law_fits f fd) (z_len : mg "len" = none) (D_law_size : Dn P w K mg base CX0 25 "_law_size" ["_law_kind_here", "_law_shapes_here"] (spSize K 24)) (D_law_units : Dn P w K mg base CX0 50 "_law_units" ["_law_kind_here", "_law_shapes_here", "_law_path"] (spUnits K 24)) (D_law_depth : Dn P w K mg base CX0 25 "_law_depth" ["_law_kind_here", "_law_shapes_here"] (spDepth K 24)) : FnOk P w K mg base CX0 51 f fd ["_law_shapes_here"] (spFits K) := by
  refine F.ok sc_law_fits (fun vs H Q E h => ?_) (fun cdv A outer s H vs Q E hr h => ?_)
  · obtain ⟨t, T, rfl, _⟩ := h
    rfl
  · obtain ⟨t, T, rfl, ht, hne, hrk, hl, q⟩ := h
    refine ⟨_, (pss_cons (ps_set (i := 1) sc_law_fits.nd rfl (by first | exact Or.inl rfl | exact Or.inr rfl) (pe_tup (pa_cons pe_str (pa_cons (pe_op op_sub (pe_callB (call_lenR (K := K)) (by rfl) z_len (by decide +kernel) (pa_cons (pv 0) pa_nil)) pe_int) pa_nil))))
      (pss_cons (ps_if (PW.pt (pw_or (pt_cmpR op_gt (pe_cd D_law_size (hr.mono (by first | decide | omega)) (by rfl) pass0 (pa_cons (pv 1) (pa_cons (pv 0) pa_nil))) pe_int (nomark _)) (pw_or1 (pt_cmpR op_gt (pe_callB (call_lenR (K := K)) (by rfl) z_len (by decide +kernel) (pa_cons (pe_cd D_law_units (hr.mono (by first | decide | omega)) (by rfl) pass0 (pa_cons (pv 1) (pa_cons (pv 0) (pa_cons pe_str pa_nil)))) pa_nil)) pe_int (nomark _))))) (pss_one (ps_ret pe_bl)) pss_nil)
      (pss_one (ps_ret (pe_cmpR op_le (pe_cd D_law_depth (hr.mono (by first | decide | omega)) (by rfl) pass0 (pa_cons (pv 1) (pa_cons (pv 0) pa_nil))) pe_int (nomark _)))))), ?_⟩
    walk_at "rd"
    have ht' := ht
    obtain ⟨xs, h1, h2⟩ := ht
    have hlen := Paired.length h2
    have hpos := List.length_pos_iff.mpr hne
    refine ⟨_, .inl (seq_of h1), by decide, New.intro fun m H1 n1 s1 g1 => ?_⟩
    rw [show ((xs.length : Int) - 1) = ((T.length - 1 : Nat) : Int) by omega] at g1
    have hm : KT [] H1 (mainK T) m := ⟨List.not_mem_nil, g1⟩
    refine ⟨m, t, mainK T, T, rfl, hm, ht'.same s1, hrk, fun H2 s2 => ⟨_, rfl, ?_⟩⟩
    unfold fitsB at q
    by_cases c1 : sizeK T 24 (mainK T) ≤ 64
    · refine iteN (by omega) ⟨m, t, mainK T, T, [], by rw [e_nix], hm.same s2, ht'.same (s1.trans s2), hrk, by decide, by decide, hl, fun l H3 n3 s3 u3 => ?_⟩
      obtain ⟨ys, g3, t3⟩ := u3
      have e3 := UnL.len g3 ⟨ys, g3, t3⟩
      refine ⟨l, rfl, _, .inl (seq_of g3), ?_⟩
      by_cases c2 : (unitsK T 24 (mainK T) []).length ≤ 40
      · refine iteN (by omega) ⟨m, t, mainK T, T, rfl, (hm.same s2).same s3, ht'.same (s1.trans (s2.trans s3)), hrk, fun H4 s4 => ⟨_, rfl, ?_⟩⟩
        rw [decide_eq_true c1, decide_eq_true c2, Bool.true_and, Bool.true_and] at q
        exact q H4 (s1.trans (s2.trans (s3.trans s4)))
      · rw [decide_eq_true c1, decide_eq_false c2, Bool.and_false, Bool.false_and] at q
        exact iteP (by omega) (q H3 (s1.trans (s2.trans s3)))
    · rw [decide_eq_false c1, Bool.false_and, Bool.false_and] at q
      exact iteP (by omega) (q H2 (s1.trans s2))
theorem e_numB : Str.ofString "num " = S (numW ++ [32]) := by decide +kernel
theorem e_rowB : Str.ofString "row " = S (rowW ++ [32]) := by decide +kernel
theorem e_shapeB : Str.ofString "shape " = S (shapeW ++ [32]) := by decide +kernel
theorem ktext_all {f : Addr} {fd : FuncData} (F : Fun K "_law_kind_text" "_law_kind_text" s_law_kind_text f fd) (W : SelfD K mg f fd "_law_kind_text" ["_law_kind_here", "_law_shapes_here"]) (z_str : mg "str" = none) : ∀ n, FnOk P w K mg base CX0 (n + 1) f fd ["_law_kind_here", "_law_shapes_here"] (spKText K n)
  | 0 => by
    refine F.ok sc_law_kind_text (fun vs H Q E h => ?_) (fun cdv A outer s H vs Q E hr h => ?_)
    · obtain ⟨a, t, k, T, rfl, _⟩ := h
      rfl
    · obtain ⟨a, t, k, T, rfl, _, _, h, _⟩ := h
      exact h.elim
  | n + 1 => by
    have D_law_kind_text := W.dn (ktext_all F W z_str n)
    refine F.ok sc_law_kind_text (fun vs H Q E h => ?_) (fun cdv A outer s H vs Q E hr h => ?_)
    · obtain ⟨a, t, k, T, rfl, _⟩ := h
      rfl
    · obtain ⟨a, t, k, T, rfl, hk, ht, hrk, hn, q⟩ := h
      refine ⟨_, (pss_cons (ps_if (pt_cmpR op_eq (pe_ix (ix_tupK (K := K)) (pv 0) pe_int (fun _ _ => rfl)) pe_str (nomark _)) (pss_one (ps_ret (pe_op op_add_str pe_str (pe_callTy call_strI (by rfl) z_str (by decide +kernel) (pa_cons (pe_ix (ix_tupK (K := K)) (pv 0) pe_int (fun _ _ => rfl)) pa_nil))))) pss_nil)
      (pss_cons (ps_if (pt_cmpR op_eq (pe_ix (ix_tupK (K := K)) (pv 0) pe_int (fun _ _ => rfl)) pe_str (nomark _)) (pss_one (ps_ret (pe_op op_add_str (pe_op op_add_str (pe_op op_add_str pe_str (pe_callTy call_strI (by rfl) z_str (by decide +kernel) (pa_cons (pe_ix (ix_tupK (K := K)) (pv 0) pe_int (fun _ _ => rfl)) pa_nil))) pe_str) (pe_cd D_law_kind_text (hr.mono (by first | decide | omega)) (by rfl) pass0 (pa_cons (pe_ix (ix_tupK (K := K)) (pv 0) pe_int (fun _ _ => rfl)) (pa_cons (pv 1) pa_nil)))))) pss_nil)
      (pss_cons (ps_if (pt_cmpR op_eq (pe_ix (ix_tupK (K := K)) (pv 0) pe_int (fun _ _ => rfl)) pe_str (nomark _)) (pss_one (ps_ret (pe_bmK (K := K) PySem.F.plainAttrs_str PySem.F.slot_str_join PySem.F.type_str_join (mt_joinS (K := K)) pe_str (pa_cons (pe_op (op_catS (K := K)) (pe_lst (pa_cons pe_str pa_nil)) (pe_lc (own := [("_law_at", 2)]) (g := gName 2) (tt := tYes) rfl sc_law_kind_text.nd (pi_listK (pe_ix (ix_tupK (K := K)) (pv 0) pe_int (fun _ _ => rfl)) (K := K)) (blkOk_by (own := [("_law_at", 2)]) (N := ["_law_kind_here", "_law_shapes_here", "_law_at"]) (sc := defScope s_law_kind_text) (by decide +kernel)) (fun _ _ _ _ _ => pg_name (i := 2) sc_law_kind_text.nd rfl (Or.inl rfl)) (fun _ _ _ _ _ => pts_nil) (fun _ _ _ _ _ => (pe_ix (ix_tupK (K := K)) (pe_ix (ix_listK (K := K)) (pv 1) (pv 2) (fun _ _ => rfl)) pe_int (fun _ _ => rfl))))) pa_nil)))) pss_nil)
      (pss_one (ps_ret (pe_ix (ix_tupK (K := K)) (pe_ix (ix_listK (K := K)) (pv 1) (pe_ix (ix_tupK (K := K)) (pv 0) pe_int (fun _ _ => rfl)) (fun _ _ => rfl)) pe_int (fun _ _ => rfl))))))), ?_⟩
      walk_at "rd"
      have ht' := ht
      obtain ⟨xs, h1, h2⟩ := ht
      cases k with
      | num w =>
        obtain ⟨_, ha⟩ := hk
        have hw : w ≤ 1000 := hrk
        have h3 := numL_3 hw
        refine ⟨_, seqT_of ha, _, rfl, rfl, iteP rfl ⟨_, seqT_of ha, _, rfl, _, rfl, str_small (by omega), ?_⟩⟩
        rw [num_S, e_numB, S_cat, S_len, S_len, sizeLine_eq]
        refine ⟨by simp [numW]; omega, ?_⟩
        rw [List.append_assoc]
        exact q H (Same.refl H)
      | row m k =>
        obtain ⟨_, b, ha, hb⟩ := hk
        have h3 := numL_3 hrk.1
        have h4 := textK_len hrk.2
        refine ⟨_, seqT_of ha, _, rfl, rfl, iteN (by decide +kernel) ⟨_, seqT_of ha, _, rfl, rfl, iteP rfl ⟨_, seqT_of ha, _, rfl, _, rfl, str_small (by have := hrk.1; omega), ?_⟩⟩⟩
        rw [num_S, e_rowB, e_bl, S_cat, S_cat, S_len, S_len, S_len, S_len, sizeLine_eq]
        refine ⟨by simp [rowW]; omega, by simp [rowW]; omega, _, seqT_of ha, _, rfl, b, t, k, T, rfl, hb, ht', hrk.2, by omega, fun H1 s1 => ⟨_, rfl, ?_⟩⟩
        rw [S_cat, S_len, S_len]
        refine ⟨by simp [rowW]; omega, ?_⟩
        have e : textK T (.row m k) = rowW ++ [32] ++ TL.numL m ++ [32] ++ textK T k := by
          obtain ⟨c, r, e⟩ := wordsK_ne T k
          unfold textK
          show TL.joinL [32] (rowW :: TL.numL m :: wordsK T k) = _
          rw [e, joinLc, joinLc]
          simp only [List.append_assoc]
        rw [← e]
        exact q H1 s1
      | pick is =>
        obtain ⟨_, l, _, ha, hl⟩ := hk
        refine ⟨_, seqT_of ha, _, rfl, rfl, iteN (by decide +kernel) ⟨_, seqT_of ha, _, rfl, rfl, iteN (by decide +kernel) ⟨_, seqT_of ha, _, rfl, rfl, iteP rfl ⟨rfl, by decide, New.intro fun u H1 n1 s1 g1 => ⟨_, seqT_of (s1 _ _ ha), _, rfl, l, rfl, ⟨_, seq_of (s1 _ _ hl)⟩, ?_⟩⟩⟩⟩⟩
        refine Cmp.pureD is (fun i => V.str (S (nameT T i))) (seq_of (s1 _ _ hl)) (by rw [List.length_map]) (by rw [List.length_map]; have := hrk.2.1; omega) (fun i x d H2 R hx hd s2 r => ?_) (fun l2 H2 n2 s2 g2 => ?_)
        · rw [List.getElem?_map, hd] at hx
          obtain rfl := Option.some.inj hx
          refine ⟨rfl, ?_⟩
          walk_at "rd"
          obtain ⟨b, g, ys, hx, _, _, hb, hg, hf⟩ := h2.shape (match n, hrk with | n + 1, hrk => (hrk.2.2 d (List.mem_of_getElem? hd)).1 | 0, hrk => (hrk.2.2 d (List.mem_of_getElem? hd)).elim)
          exact ⟨_, seq_of (s2 _ _ (s1 _ _ h1)), _, atI_nat hx, _, rfl, _, seqT_of (s2 _ _ (s1 _ _ hb)), _, rfl, r H2 (Same.refl H2)⟩
        · have e : [V.str (Str.ofString "pick")] ++ is.map (fun i => V.str (S (nameT T i))) = wds (pickW' :: is.map (nameT T)) := by
            unfold wds
            rw [List.map_cons, List.map_map, e_pick]
            rfl
          have hl3 := textK_len hrk
          refine ⟨l2, rfl, _, seq_of (s2 _ _ g1), _, seq_of g2, by rw [List.length_map, sizeLine_eq]; have := hrk.2.1; simp; omega, New.intro fun l3 H3 n3 s3 g3 => ⟨[32], e_bl, pickW' :: is.map (nameT T), .inl ?_, ?_, ?_⟩⟩
          · rw [← e]
            exact seq_of g3
          · have h3 : ((is.map (nameT T)).map (·.length)).sum ≤ 10 * ((is.map (nameT T)).map (·.length)).length := sum_le fun x hx => by
              obtain ⟨y, hy, rfl⟩ := List.mem_map.mp hx
              obtain ⟨i, hi, rfl⟩ := List.mem_map.mp hy
              match n, hrk with
              | n + 1, hrk => exact (hrk.2.2 i hi).2.1
              | 0, hrk => exact (hrk.2.2 i hi).elim
            have h1 := hrk.2.1
            simp only [List.length_map] at h3
            simp only [List.map_cons, List.sum_cons, List.length_cons, List.length_map, List.length_nil]
            have e4 : pickW'.length = 4 := rfl
            omega
          · exact q H3 (s1.trans (s2.trans s3))
      | shp i =>
        obtain ⟨_, ha⟩ := hk
        obtain ⟨b, g, ys, hx, _, _, hb, hg, hf⟩ := h2.shape hrk.1
        exact ⟨_, seqT_of ha, _, rfl, rfl, iteN (by decide +kernel) ⟨_, seqT_of ha, _, rfl, rfl, iteN (by decide +kernel) ⟨_, seqT_of ha, _, rfl, rfl, iteN (by decide +kernel) ⟨_, seqT_of ha, _, rfl, _, _, rfl, seq_of h1, _, atI_nat hx, _, rfl, _, seqT_of hb, _, rfl, q H (Same.refl H)⟩⟩⟩⟩
theorem ok_ktext {f : Addr} {fd : FuncData} (F : Fun K "_law_kind_text" "_law_kind_text" s_law_kind_text f fd) (W_law_kind_text : SelfD K mg f fd "_law_kind_text" ["_law_kind_here", "_law_shapes_here"]) (z_str : mg "str" = none) : FnOk P w K mg base CX0 25 f fd ["_law_kind_here", "_law_shapes_here"] (spKText K 24) := by
  exact ktext_all F W_law_kind_text z_str 24
theorem lineF_eq (T : Tb) (f : List Nat × Kd) : lineF T f = f.1 ++ [32] ++ textK T f.2 := by
  obtain ⟨c, r, e⟩ := wordsK_ne T f.2
  unfold lineF textK
  rw [e, joinLc]
  simp only [List.append_assoc]
theorem linesS_len {T : Tb} {i : Nat} {s : List Nat × Fl} (h : Rk T 24 (.shp i)) (hs : T[i]? = some s) : (linesS T s).length ≤ 101 ∧ ∀ l ∈ linesS T s, l.length ≤ 1700 := by
  have h := h
  obtain ⟨h1, h2, h3, h4, h5⟩ := h
  rw [flds_at hs] at h3 h5
  rw [name_at hs] at h2
  refine ⟨?_, fun l hl => ?_⟩
  · unfold linesS
    rw [List.length_cons, List.length_map]
    omega
  · rcases List.mem_cons.mp hl with rfl | hl
    · show (shapeW ++ ([32] ++ s.1)).length ≤ _
      simp [shapeW]
      omega
    · obtain ⟨p, hp, rfl⟩ := List.mem_map.mp hl
      obtain ⟨g1, g2, g3⟩ := h5 p hp
      have := textK_len (n := 23) g3
      rw [lineF_eq]
      simp
      omega
theorem linesT_len {T : Tb} (h : okT T) : (linesT T).length ≤ 1010 ∧ ∀ l ∈ linesT T, l.length ≤ 1700 := by
  obtain ⟨h1, h2, h3⟩ := h
  have each : ∀ s ∈ T, (linesS T s).length ≤ 101 ∧ ∀ l ∈ linesS T s, l.length ≤ 1700 := fun s hs => by
    obtain ⟨i, hi, e⟩ := List.mem_iff_getElem.mp hs
    exact linesS_len (h3 i hi) (by rw [List.getElem?_eq_getElem hi, e])
  refine ⟨?_, fun l hl => ?_⟩
  · unfold linesT
    rw [List.length_flatMap]
    have := sum_le (l := T.map fun s => (linesS T s).length) (b := 101) fun x hx => by
      obtain ⟨s, hs, rfl⟩ := List.mem_map.mp hx
      exact (each s hs).1
    rw [List.length_map] at this
    omega
  · obtain ⟨s, hs, hl⟩ := List.mem_flatMap.mp hl
    exact (each s hs).2 l hl
theorem wds_snoc (ws : List (List Nat)) (l : List Nat) : wds ws ++ [V.str (S l)] = wds (ws ++ [l]) := by
  unfold wds
  rw [List.map_append]
  rfl
theorem wds_len (ws : List (List Nat)) : (wds ws).length = ws.length := by
  unfold wds
  rw [List.length_map]
theorem ok_text {f : Addr} {fd : FuncData} (F : Fun K "_law_text" "_law_text" s_law_text f fd) (D_law_kind_text : Dn P w K mg base CX0 25 "_law_kind_text" ["_law_kind_here", "_law_shapes_here"] (spKText K 24)) : FnOk P w K mg base CX0 26 f fd ["_law_shapes_here"] (spText K) := by
  refine F.ok sc_law_text (fun vs H Q E h => ?_) (fun cdv A outer s H vs Q E hr h => ?_)
  · obtain ⟨t, T, rfl, _⟩ := h
    rfl
  · obtain ⟨t, T, rfl, ht, hT, q⟩ := h
    refine ⟨_, (pss_cons (ps_set (i := 1) sc_law_text.nd rfl (by first | exact Or.inl rfl | exact Or.inr rfl) (pe_lst pa_nil))
      (pss_cons (ps_for PassesOwn.never rfl (pi_listK (pv 0) (K := K)) (pg_tup rfl (pgs_cons (pg_name (i := 2) sc_law_text.nd rfl (by first | exact Or.inl rfl | exact Or.inr rfl)) (pgs_cons (pg_name (i := 3) sc_law_text.nd rfl (by first | exact Or.inl rfl | exact Or.inr rfl)) pgs_nil))) (pss_cons (ps_expr (pe_bmK (K := K) PySem.F.plainAttrs_list PySem.F.slot_list_append PySem.F.type_list_append mt_append (pv 1) (pa_cons (pe_op op_add_str pe_str (pv 2)) pa_nil)))
      (pss_one (ps_for PassesOwn.never rfl (pi_listK (pv 3) (K := K)) (pg_tup rfl (pgs_cons (pg_name (i := 4) sc_law_text.nd rfl (by first | exact Or.inl rfl | exact Or.inr rfl)) (pgs_cons (pg_name (i := 5) sc_law_text.nd rfl (by first | exact Or.inl rfl | exact Or.inr rfl)) pgs_nil))) (pss_one (ps_expr (pe_bmK (K := K) PySem.F.plainAttrs_list PySem.F.slot_list_append PySem.F.type_list_append mt_append (pv 1) (pa_cons (pe_op op_add_str (pe_op op_add_str (pv 4) pe_str) (pe_cd D_law_kind_text (hr.mono (by first | decide | omega)) (by rfl) pass0 (pa_cons (pv 5) (pa_cons (pv 0) pa_nil)))) pa_nil))))))))
      (pss_one (ps_ret (pe_bmK (K := K) PySem.F.plainAttrs_str PySem.F.slot_str_join PySem.F.type_str_join (mt_joinS (K := K)) pe_str (pa_cons (pv 1) pa_nil)))))), ?_⟩
    walk_at "rd"
    have ht' := ht
    obtain ⟨xs, h1, h2⟩ := ht
    obtain ⟨lc, ll⟩ := linesT_len hT
    have hlen := Paired.length h2
    refine ⟨by decide, New.intro fun p H1 np s1 g1 => ⟨⟨_, seq_of (s1 _ _ h1)⟩, ?_⟩⟩
    refine Loop.list (xs := xs) (fun i σ HA => ∃ y2 y3 y4 y5, σ = [some (.ref t), some (.ref p), y2, y3, y4, y5] ∧ Same H HA ∧ HA p = some (.lst (wds ((T.take i).flatMap (linesS T))))) ⟨_, _, _, _, rfl, s1, g1⟩ ?_ ?_ ?_
    · rintro i σ HA _ ⟨y2, y3, y4, y5, rfl, sA, gA⟩
      exact seq_of (sA _ _ h1)
    · rintro i x σ HA hx ⟨y2, y3, y4, y5, rfl, sA, gA⟩
      obtain ⟨s, hs, a, g, ys, rfl, _, _, ha, hg, hf⟩ := pget h2 hx
      have hi := (List.getElem?_eq_some_iff.mp hs).1
      have rk := hT.2.2 i hi
      obtain ⟨r1, r2, r3, r4, r5⟩ := id rk
      rw [flds_at hs] at r3 r5
      rw [name_at hs] at r2
      have lS := fmL_le (l := T) (f := linesS T) (i + 1)
      rw [fmL_snoc hs, List.length_append] at lS
      have lS2 : (T.flatMap (linesS T)).length ≤ 1010 := lc
      refine two_at (sA _ _ ha) ?_
      walk_at "rd"
      have lc1 : (linesS T s).length = s.2.length + 1 := by
        unfold linesS
        rw [List.length_cons, List.length_map]
      refine ⟨tyv_list (seq_of gA), by rw [e_shapeB, S_len, S_len, sizeLine_eq]; simp [shapeW]; omega, _, gA, by rw [wds_len, sizeLine_eq]; omega, Upd.intro fun HB oB gB => ?_⟩
      have sB : Same H HB := Same.off sA np oB
      rw [e_shapeB, S_cat, wds_snoc] at gB
      have hlen2 := Paired.length hf
      refine ⟨⟨_, seq_of (sB _ _ hg)⟩, Loop.list (xs := ys) (fun j σ HC => ∃ y4 y5, σ = [some (.ref t), some (.ref p), some (.str (S s.1)), some (.ref g), y4, y5] ∧ Same H HC ∧ HC p = some (.lst (wds ((T.take i).flatMap (linesS T) ++ lineS s.1 :: (s.2.take j).map (lineF T))))) ⟨_, _, rfl, sB, gB⟩ ?_ ?_ ?_⟩
      · rintro j σ HC _ ⟨y4, y5, rfl, sC, gC⟩
        exact seq_of (sC _ _ hg)
      · rintro j x σ HC hx ⟨y4, y5, rfl, sC, gC⟩
        obtain ⟨d, hd, e, c, rfl, _, he, hc⟩ := pget hf hx
        obtain ⟨q1, q2, q3⟩ := r5 d (List.mem_of_getElem? hd)
        have hj := (List.getElem?_eq_some_iff.mp hd).1
        have tl := textK_len (n := 23) q3
        refine two_at (sC _ _ he) ?_
        walk_at "rd"
        refine ⟨tyv_list (seq_of gC), by rw [e_bl, S_len, S_len, sizeLine_eq]; simp; omega, c, t, d.2, T, rfl, hc.same sC, ht'.same sC, Rk.le (n := 23) q3 (by decide), by decide, fun HD sD => ⟨_, rfl, ?_⟩⟩
        rw [e_bl, S_cat, S_cat, S_len, S_len, sizeLine_eq]
        refine ⟨by simp; omega, _, sD _ _ gC, ?_, Upd.intro fun HE oE gE => ?_⟩
        · rw [wds_len, List.length_append, List.length_cons, List.length_map, List.length_take]
          omega
        · refine ⟨Same.off (sC.trans sD) np oE, ?_⟩
          rw [gE, wds_snoc, take_snoc hd, List.map_append, ← lineF_eq]
          simp
      · rintro σ HC ⟨y4, y5, rfl, sC, gC⟩
        walk_at "rd"
        refine ⟨sC, ?_⟩
        rw [hlen2, List.take_length] at gC
        rw [gC, fmL_snoc hs]
        rfl
    · rintro σ HA ⟨y2, y3, y4, y5, rfl, sA, gA⟩
      walk_at "rd"
      rw [hlen, List.take_length] at gA
      refine ⟨rfl, [10], e_lf, _, .inl (seq_of gA), ?_, q HA sA⟩
      have h3 := sum_le (l := (T.flatMap (linesS T)).map (·.length)) (b := 1700) fun x hx => by
        obtain ⟨l, hl, rfl⟩ := List.mem_map.mp hx
        exact ll l hl
      have lS2 : (T.flatMap (linesS T)).length ≤ 1010 := lc
      rw [List.length_map] at h3
      simp only [List.length_cons, List.length_nil]
      omega
end

/-! ### the law's names -/
def NamesOk (ws : List (List Nat)) : Prop := ws.length = 12 ∧ ws.Nodup ∧ ∀ w ∈ ws, isNameL w = true
instance (ws : List (List Nat)) : Decidable (NamesOk ws) := inferInstanceAs (Decidable (_ ∧ _ ∧ _))
theorem isName_len {w : List Nat} (h : isNameL w = true) : 1 ≤ w.length ∧ w.length ≤ 6 ∧ (∀ c ∈ w, 97 ≤ c ∧ c ≤ 122) ∧ w ∉ ownL := by
  unfold isNameL at h
  simp only [Bool.and_eq_true, decide_eq_true_eq, Bool.not_eq_true', decide_eq_false_iff_not, List.all_eq_true] at h
  exact ⟨h.1.1.1, h.1.1.2, h.1.2, h.2⟩
def wordsA : List (List Nat) := (["num", "row", "pick", "tag", "room", "part", "tags", "put", "look", "shape", "end", "out"] : List Str).map fun z => z.cps.toList
def lettersB : List Nat := (Str.ofString "bfgjkqvxyzwh").cps.toList
def tailB : List Nat := (Str.ofString "abdeilmnorstu").cps.toList
def namesA (v : Nat) : List (List Nat) := (List.range 12).map fun k => wordsA.getD ((v + k) % 12) [] ++ [113]
def namesB (v : Nat) (tail : List Nat) : List (List Nat) := (List.range 12).map fun k => [lettersB.getD ((v + k) % 12) 0] ++ tail ++ [120]
def namesC (v : Nat) : List (List Nat) := ((List.range 6).map fun k => ((Str.ofString "zyxwvu").cps.toList).take (1 + (v + k) % 6)) ++ (["yz", "yyyyyy", "y", "yx", "numz", "tagszz"] : List Str).map fun z => z.cps.toList
theorem namesA_ok : ∀ v < 12, NamesOk (namesA v) := by decide +kernel
theorem namesC_ok : ∀ v < 12, NamesOk (namesC v) := by decide +kernel
theorem own_x : ∀ w ∈ ownL, w.getLast? ≠ some 120 := by decide +kernel
theorem lettersB_ok : ∀ v < 12, ((List.range 12).map fun k => lettersB.getD ((v + k) % 12) 0).Nodup ∧ ∀ k < 12, 97 ≤ lettersB.getD ((v + k) % 12) 0 ∧ lettersB.getD ((v + k) % 12) 0 ≤ 122 := by decide +kernel
theorem nodup_map_on {α β : Type} {f : α → β} {l : List α} (h : l.Nodup) (hf : ∀ x ∈ l, ∀ y ∈ l, f x = f y → x = y) : (l.map f).Nodup := by
  induction l with
  | nil => exact List.nodup_nil
  | cons a r ih =>
    rw [List.map_cons, List.nodup_cons]
    obtain ⟨h1, h2⟩ := List.nodup_cons.mp h
    refine ⟨fun m => ?_, ih h2 fun x hx y hy => hf x (List.mem_cons_of_mem _ hx) y (List.mem_cons_of_mem _ hy)⟩
    obtain ⟨x, hx, e⟩ := List.mem_map.mp m
    exact h1 (hf x (List.mem_cons_of_mem _ hx) a List.mem_cons_self e ▸ hx)
theorem nodup_inj {α β : Type} {f : α → β} {l : List α} (h : (l.map f).Nodup) : ∀ x ∈ l, ∀ y ∈ l, f x = f y → x = y := by
  induction l with
  | nil => exact fun x hx => absurd hx List.not_mem_nil
  | cons a r ih =>
    rw [List.map_cons, List.nodup_cons] at h
    intro x hx y hy e
    rcases List.mem_cons.mp hx with rfl | hx <;> rcases List.mem_cons.mp hy with rfl | hy
    · rfl
    · exact absurd (List.mem_map.mpr ⟨y, hy, e.symm⟩) h.1
    · exact absurd ((List.mem_map (l := r)).mpr ⟨x, by assumption, e⟩) h.1
    · exact ih h.2 x hx y hy e
theorem namesB_ok {v : Nat} (hv : v < 12) {tail : List Nat} (ht : tail.length ≤ 4) (hl : ∀ c ∈ tail, 97 ≤ c ∧ c ≤ 122) : NamesOk (namesB v tail) := by
  obtain ⟨n1, n2⟩ := lettersB_ok v hv
  refine ⟨by unfold namesB; rw [List.length_map, List.length_range], ?_, fun w hw => ?_⟩
  · refine nodup_map_on List.nodup_range fun x hx y hy e => nodup_inj n1 x hx y hy ?_
    have := List.append_inj_left' e rfl
    have := List.append_inj_left this rfl
    simpa using this
  · obtain ⟨k, hk, rfl⟩ := List.mem_map.mp hw
    have hk := List.mem_range.mp hk
    obtain ⟨a, b⟩ := n2 k hk
    unfold isNameL
    have e1 : ([lettersB.getD ((v + k) % 12) 0] ++ tail ++ [120]).length = tail.length + 2 := by simp
    have e2 : ([lettersB.getD ((v + k) % 12) 0] ++ tail ++ [120]).all (fun c => decide (97 ≤ c ∧ c ≤ 122)) = true := by
      rw [List.all_eq_true]
      intro c hc
      simp only [List.mem_append, List.mem_singleton] at hc
      rw [decide_eq_true_eq]
      rcases hc with (rfl | hc) | rfl
      · exact ⟨a, b⟩
      · exact hl c hc
      · decide
    have e3 : [lettersB.getD ((v + k) % 12) 0] ++ tail ++ [120] ∉ ownL := fun m => own_x _ m List.getLast?_concat
    rw [e1, e2, decide_eq_true (by omega), decide_eq_true (by omega), decide_eq_false e3]
    rfl
theorem getD_at {α : Type} {l : List α} {j : Nat} {d : α} (h : j < l.length) : l[j]? = some (l.getD j d) := by
  rw [List.getD_eq_getElem?_getD, List.getElem?_eq_getElem h]
  rfl
theorem fmod_nat (a m : Nat) : ((a : Int)).fmod (m : Int) = ((a % m : Nat) : Int) := by
  rw [Int.fmod_eq_emod_of_nonneg _ (Int.natCast_nonneg m)]
  exact (Int.natCast_emod a m).symm
theorem Cmp.lettersP {p : Nat → Prop} {lo : Int} {n j : Nat} {te : TE} {vs : List Nat} {σ : L2.St} {H1 : Hp} {Q : VK} {t : Addr} (d0 : DSt H1 t) (hn : n ≤ 1000) (hw : ∀ x, wipe ((wipe σ vs).set j (some x)) vs = wipe σ vs)
    (he : ∀ x H2 (R : VK), Off t H1 H2 → DSt H2 t → (∀ c H3, p c → Off t H2 H3 → DSt H3 t → R (.str ⟨#[c]⟩) H3) → te ((wipe σ vs).set j (some x)) H2 R)
    (hd : ∀ D (cs : List Nat) H2, cs.length = n → (∀ c ∈ cs, p c) → Off t H1 H2 → DSt H2 t → H2 D = some (.lst (wds (cs.map fun c => [c]))) → Q (.ref D) H2) : Cmp (Itr lo n) (gName j) tYes te vs σ H1 Q := by
  refine Cmp.range (fun D i acc H => H1 D = none ∧ Off t H1 H ∧ DSt H t ∧ ∃ cs : List Nat, acc = wds (cs.map fun c => [c]) ∧ cs.length = i ∧ (∀ c ∈ cs, p c) ∧ H D = some (.lst acc)) (fun D H2 nD s h => ⟨nD, Off.of s, d0.keep s, [], rfl, rfl, fun _ m => (nomatch m), h⟩) ?_ ?_
  · rintro D i acc H Nx hi ha ⟨nD, o, d, cs, rfl, e, hp, h⟩ nx
    refine ⟨hw _, he _ _ _ o d fun c H3 pc o3 d3 => ?_⟩
    have nt := d0.apart nD
    refine ⟨_, o3 _ _ nt h, sz100l (by unfold wds; rw [List.length_map, List.length_map]; omega), ?_⟩
    have e2 : wds (cs.map fun c => [c]) ++ [V.str ⟨#[c]⟩] = wds ((cs ++ [c]).map fun c => [c]) := by
      unfold wds
      rw [List.map_append, List.map_append]
      rfl
    rw [e2]
    refine nx _ _ (by unfold wds; rw [List.length_map, List.length_map, List.length_append]; simp; omega) ⟨nD, ?_, ?_, cs ++ [c], rfl, by simp; omega, fun x hx => ?_, upd_same⟩
    · intro b u nb hb
      rw [upd_ne (ne_of_none hb nD)]
      exact o3 _ _ nb (o _ _ nb hb)
    · obtain ⟨r, k, c, h1⟩ := d3
      exact ⟨r, k, c, by rw [upd_ne (Ne.symm nt)]; exact h1⟩
    · rcases List.mem_append.mp hx with hx | hx
      · exact hp x hx
      · rw [List.mem_singleton.mp hx]
        exact pc
  · rintro D acc H ha ⟨nD, o, d, cs, rfl, e, hp, h⟩
    exact hd D cs H e hp o d h
theorem wordsA_len : ∀ w ∈ wordsA, w.length ≤ 10 := by decide +kernel
theorem tail_ok : ∀ c ∈ tailB, 97 ≤ c ∧ c ≤ 122 := by decide +kernel
def spNames : Sp := fun vs H Q _ => ∃ (t : Addr), vs = [.ref t] ∧ DSt H t ∧ ∀ (ws : List (List Nat)) p H1, NamesOk ws → H p = none → Off t H H1 → DSt H1 t → H1 p = some (.lst (wds ws)) → Q (.ref p) H1
section
variable {P : Program} {w : World} {K : PySem.W.Frag} {mg : Str → Option Value} {base : Heap}
theorem ok_names {f : Addr} {fd : FuncData} (F : Fun K "_law_names" "_law_names" s_law_names f fd) (z_range : mg "range" = none) (D_law_take : Dn P w K mg base CX0 1 "_law_take" ["_law_box_here", "_law_many"] spDraw) : FnOk P w K mg base CX0 2 f fd ["_law_box_here"] spNames := by
  refine F.ok sc_law_names (fun vs H Q E h => ?_) (fun cdv A outer s H vs Q E hr h => ?_)
  · obtain ⟨t, rfl, _⟩ := h
    rfl
  · obtain ⟨t, rfl, d0, q⟩ := h
    refine ⟨_, (pss_cons (ps_set (i := 1) sc_law_names.nd rfl (by first | exact Or.inl rfl | exact Or.inr rfl) (pe_cd D_law_take (hr.mono (by first | decide | omega)) (by rfl) pass0 (pa_cons (pv 0) (pa_cons pe_int pa_nil))))
      (pss_cons (ps_set (i := 2) sc_law_names.nd rfl (by first | exact Or.inl rfl | exact Or.inr rfl) (pe_cd D_law_take (hr.mono (by first | decide | omega)) (by rfl) pass0 (pa_cons (pv 0) (pa_cons pe_int pa_nil))))
      (pss_cons (ps_if (pt_cmpR op_eq (pv 1) pe_int (nomark _)) (pss_cons (ps_set (i := 3) sc_law_names.nd rfl (by first | exact Or.inl rfl | exact Or.inr rfl) (pe_lst (pa_cons pe_str (pa_cons pe_str (pa_cons pe_str (pa_cons pe_str (pa_cons pe_str (pa_cons pe_str (pa_cons pe_str (pa_cons pe_str (pa_cons pe_str (pa_cons pe_str (pa_cons pe_str (pa_cons pe_str pa_nil))))))))))))))
      (pss_one (ps_ret (pe_lc (own := [("_law_k", 4)]) (g := gName 4) (tt := tYes) rfl sc_law_names.nd (pi_rangeL1 (by rfl) z_range (pa_cons pe_int pa_nil)) (blkOk_by (own := [("_law_k", 4)]) (N := ["_law_box_here", "_law_way", "_law_at", "_law_words", "_law_k", "_law_tail"]) (sc := defScope s_law_names) (by decide +kernel)) (fun _ _ _ _ _ => pg_name (i := 4) sc_law_names.nd rfl (Or.inl rfl)) (fun _ _ _ _ _ => pts_nil) (fun _ _ _ _ _ => (pe_op op_add_str (pe_ix (ix_listK (K := K)) (pv 3) (pe_op op_modN (pe_op op_add (pv 2) (pv 4)) pe_int) (fun _ _ => rfl)) pe_str)))))) pss_nil)
      (pss_cons (ps_if (pt_cmpR op_eq (pv 1) pe_int (nomark _)) (pss_cons (ps_set (i := 5) sc_law_names.nd rfl (by first | exact Or.inl rfl | exact Or.inr rfl) (pe_bmK (K := K) PySem.F.plainAttrs_str PySem.F.slot_str_join PySem.F.type_str_join (mt_joinS (K := K)) pe_str (pa_cons (pe_lc (own := [("_law_k", 4)]) (g := gName 4) (tt := tYes) rfl sc_law_names.nd (pi_rangeL1 (by rfl) z_range (pa_cons (pe_cd D_law_take (hr.mono (by first | decide | omega)) (by rfl) pass0 (pa_cons (pv 0) (pa_cons pe_int pa_nil))) pa_nil)) (blkOk_by (own := [("_law_k", 4)]) (N := ["_law_box_here", "_law_way", "_law_at", "_law_words", "_law_k", "_law_tail"]) (sc := defScope s_law_names) (by decide +kernel)) (fun _ _ _ _ _ => pg_name (i := 4) sc_law_names.nd rfl (Or.inl rfl)) (fun _ _ _ _ _ => pts_nil) (fun _ _ _ _ _ => (pe_ix ix_str pe_str (pe_cd D_law_take (hr.mono (by first | decide | omega)) (by rfl) pass0 (pa_cons (pv 0) (pa_cons pe_int pa_nil))) (fun _ _ => rfl)))) pa_nil)))
      (pss_one (ps_ret (pe_lc (own := [("_law_k", 4)]) (g := gName 4) (tt := tYes) rfl sc_law_names.nd (pi_rangeL1 (by rfl) z_range (pa_cons pe_int pa_nil)) (blkOk_by (own := [("_law_k", 4)]) (N := ["_law_box_here", "_law_way", "_law_at", "_law_words", "_law_k", "_law_tail"]) (sc := defScope s_law_names) (by decide +kernel)) (fun _ _ _ _ _ => pg_name (i := 4) sc_law_names.nd rfl (Or.inl rfl)) (fun _ _ _ _ _ => pts_nil) (fun _ _ _ _ _ => (pe_op op_add_str (pe_op op_add_str (pe_ix ix_str pe_str (pe_op op_modN (pe_op op_add (pv 2) (pv 4)) pe_int) (fun _ _ => rfl)) (pv 5)) pe_str)))))) pss_nil)
      (pss_one (ps_ret (pe_op (op_catS (K := K)) (pe_lc (own := [("_law_k", 4)]) (g := gName 4) (tt := tYes) rfl sc_law_names.nd (pi_rangeL1 (by rfl) z_range (pa_cons pe_int pa_nil)) (blkOk_by (own := [("_law_k", 4)]) (N := ["_law_box_here", "_law_way", "_law_at", "_law_words", "_law_k", "_law_tail"]) (sc := defScope s_law_names) (by decide +kernel)) (fun _ _ _ _ _ => pg_name (i := 4) sc_law_names.nd rfl (Or.inl rfl)) (fun _ _ _ _ _ => pts_nil) (fun _ _ _ _ _ => (pe_slice C8.sl_txt pe_str po_none (po_some (pe_op op_add pe_int (pe_op op_modN (pe_op op_add (pv 2) (pv 4)) pe_int)))))) (pe_lst (pa_cons pe_str (pa_cons pe_str (pa_cons pe_str (pa_cons pe_str (pa_cons pe_str (pa_cons pe_str pa_nil)))))))))))))), ?_⟩
    walk_at "rd"
    refine ⟨t, 3, rfl, d0, by decide, by decide, fun way H1 wa wb o1 d1 => ?_⟩
    walk_at "rd"
    refine ⟨t, 12, rfl, d1, by decide, by decide, fun v0 H2 va vb o2 d2 => ?_⟩
    obtain ⟨v, rfl⟩ : ∃ v : Nat, v0 = (v : Int) := ⟨v0.toNat, by omega⟩
    have nl : ∀ {l : Addr}, H2 l = none → H l = none := fun h => noneD o1 d0 d1 (noneD o2 d1 d2 h)
    have o12 := o1.trans o2
    have eN : [V.str (Str.ofString "num"), V.str (Str.ofString "row"), V.str (Str.ofString "pick"), V.str (Str.ofString "tag"), V.str (Str.ofString "room"), V.str (Str.ofString "part"), V.str (Str.ofString "tags"), V.str (Str.ofString "put"), V.str (Str.ofString "look"), V.str (Str.ofString "shape"), V.str (Str.ofString "end"), V.str (Str.ofString "out")] = wds wordsA := rfl
    have fm : ∀ (k m : Nat), ((v : Int) + (0 + (k : Int))).fmod (m : Int) = (((v + k) % m : Nat) : Int) := fun k m => by
      rw [← fmod_nat, Int.zero_add, Int.natCast_add]
    refine ite2 (fun _ => ?_) (fun _ => ite2 (fun _ => ?_) (fun _ => ?_))
    · refine ⟨by decide, New.intro fun p H3 n3 s3 h3 => ?_⟩
      rw [eN] at h3
      refine Cmp.pureR (fun k => V.str (S (wordsA.getD ((v + k) % 12) [] ++ [113]))) (by decide) (fun _ => rfl) (fun k H4 R hk s4 r => ?_) (fun l H4 n4 s4 h4 => ?_)
      · walk_at "rd"
        have hj : (v + k) % 12 < wordsA.length := Nat.mod_lt _ (by decide)
        have hx : (wds wordsA)[(v + k) % 12]? = some (V.str (S (wordsA.getD ((v + k) % 12) []))) := by
          unfold wds
          rw [List.getElem?_map, getD_at (d := []) hj]
          rfl
        have hw : (wordsA.getD ((v + k) % 12) []).length ≤ 10 := wordsA_len _ (List.mem_of_getElem? (getD_at hj))
        refine ⟨by decide, _, seq_of (s4 _ _ h3), _, at_of (fm k 12) hx, _, rfl, ?_⟩
        rw [show Str.ofString "q" = S [113] by decide +kernel, S_cat]
        exact ⟨by rw [S_len, S_len, sizeLine_eq, List.length_singleton]; omega, r H4 (Same.refl H4)⟩
      · refine q (namesA v) l H4 (namesA_ok v (by omega)) (nl (s3.free n4)) (o12.trans (Off.of (s3.trans s4))) ((d2.keep s3).keep s4) ?_
        rw [h4]
        unfold wds namesA
        rw [List.map_map]
        rfl
    · refine ⟨rfl, t, 5, rfl, d2, by decide, by decide, fun v3 H3 a3 b3 o3 d3 => ⟨_, rfl, ?_⟩⟩
      refine Cmp.lettersP (p := fun c => 97 ≤ c ∧ c ≤ 122) d3 (by omega) (fun _ => rfl) (fun x H4 R o4 d4 r => ?_) (fun D cs H4 hl hc o4 d4 h4 => ?_)
      · walk_at "rd"
        refine ⟨t, 13, rfl, d4, by decide, by decide, fun v5 H5 a5 b5 o5 d5 => ?_⟩
        obtain ⟨c, hc, ac⟩ := pickS (l := tailB) a5 (by show v5 < 13; exact b5)
        exact ⟨v5, rfl, by decide +kernel, c, ac, r c H5 (tail_ok c hc) o5 d5⟩
      · refine ⟨[], e_no, D, rfl, _, .inl (seq_of h4), ?_, ?_⟩
        · rw [sum_one]
          simp
          omega
        · rw [join_one]
          refine Cmp.pureR (fun k => V.str (S ([lettersB.getD ((v + k) % 12) 0] ++ cs ++ [120]))) (by decide) (fun _ => rfl) (fun k H5 R hk s5 r => ?_) (fun l H5 n5 s5 h5 => ?_)
          · walk_at "rd"
            have hj : (v + k) % 12 < lettersB.length := Nat.mod_lt _ (by decide)
            have ha := atI_nat (getD_at (d := 0) hj)
            rw [← fm k 12] at ha
            refine ⟨by decide, by decide +kernel, _, ha, ?_⟩
            show (S [lettersB.getD ((v + k) % 12) 0]).length + (S cs).length ≤ sizeLine ∧ (S [lettersB.getD ((v + k) % 12) 0] ++ S cs).length + (Str.ofString "x").length ≤ sizeLine ∧ R (V.str (S [lettersB.getD ((v + k) % 12) 0] ++ S cs ++ Str.ofString "x")) H5
            rw [show Str.ofString "x" = S [120] by decide +kernel, S_cat, S_cat, S_len, S_len, S_len, S_len, sizeLine_eq]
            exact ⟨by simp; omega, by simp; omega, r H5 (Same.refl H5)⟩
          · refine q (namesB v cs) l H5 (namesB_ok (by omega) (by omega) hc) (nl (noneD o3 d2 d3 (noneD o4 d3 d4 n5))) (((o12.trans o3).trans o4).trans (Off.of s5)) (d4.keep s5) ?_
            rw [h5]
            unfold wds namesB
            rw [List.map_map]
            rfl
    · refine Cmp.pureR (fun k => V.str (S (((Str.ofString "zyxwvu").cps.toList).take (1 + (v + k) % 6)))) (by decide) (fun _ => rfl) (fun k H4 R hk s4 r => ?_) (fun l H4 n4 s4 h4 => ?_)
      · walk_at "rd"
        refine ⟨by decide, by decide +kernel, ?_⟩
        have e := fm k 6
        rw [show ((v : Int) + (0 + (k : Int))).fmod 6 = (((v + k) % 6 : Nat) : Int) from e, str_S (Str.ofString "zyxwvu"), slice_to (by omega), show (1 + (((v + k) % 6 : Nat) : Int)).toNat = 1 + (v + k) % 6 by omega]
        exact r H4 (Same.refl H4)
      · refine ⟨by decide, New.intro fun p H5 n5 s5 h5 => ⟨_, rfl, _, seq_of (s5 _ _ h4), _, seq_of h5, by rw [List.length_map, List.length_range]; decide, New.intro fun l2 H6 n6 s6 h6 => ?_⟩⟩
        refine q (namesC v) l2 H6 (namesC_ok v (by omega)) (nl ((s4.trans s5).free n6)) (o12.trans (Off.of (s4.trans (s5.trans s6)))) (d2.keep (s4.trans (s5.trans s6))) ?_
        rw [h6]
        unfold wds namesC
        rw [List.map_append, List.map_map, List.map_map]
        rfl
end

/-! ### the law's kinds -/
def KOk (m : Nat) : Kd → Prop
  | .num w => 1 ≤ w ∧ w ≤ 4
  | .row n k => 1 ≤ n ∧ n ≤ 6 ∧ ((∃ w, k = .num w ∧ 1 ≤ w ∧ w ≤ 4) ∨ ∃ i, k = .shp i ∧ i < m)
  | .shp i => i < m
  | .pick is => 2 ≤ is.length ∧ is.length ≤ 4 ∧ is.Nodup ∧ ∀ i ∈ is, i < m
def Occ (S : List Addr) (H : Hp) : Prop := ∀ a ∈ S, ∃ o, H a = some o
theorem Occ.same {S : List Addr} {H H1 : Hp} (o : Occ S H) (s : Same H H1) : Occ S H1 := fun a m => let ⟨u, h⟩ := o a m; ⟨u, s _ _ h⟩
theorem Occ.off {S : List Addr} {t : Addr} {H H1 : Hp} (o : Occ S H) (f : Off t H H1) (d : DSt H1 t) : Occ S H1 := fun a m => by
  by_cases e : a = t
  · subst e
    obtain ⟨_, _, _, h⟩ := d
    exact ⟨_, h⟩
  · obtain ⟨u, h⟩ := o a m
    exact ⟨u, f _ _ e h⟩
theorem Occ.fresh {S : List Addr} {H : Hp} {p : Addr} (o : Occ S H) (h : H p = none) : p ∉ S := fun m => by
  obtain ⟨u, e⟩ := o p m
  rw [h] at e
  cases e
def pickD (at_ n m : Nat) : List Nat := (List.range n).map fun k => (at_ + k) % m
theorem mod_inj {a m x y : Nat} (hx : x < m) (hy : y < m) (h : (a + x) % m = (a + y) % m) : x = y := by
  have h1 := Nat.div_add_mod (a + x) m
  have h2 := Nat.div_add_mod (a + y) m
  rw [h] at h1
  have h3 : m * ((a + x) / m) + y = m * ((a + y) / m) + x := by omega
  have hd : (a + x) / m = (a + y) / m := by
    rcases Nat.lt_trichotomy ((a + x) / m) ((a + y) / m) with g | g | g
    · have := Nat.mul_le_mul_left m (show (a + x) / m + 1 ≤ (a + y) / m from g)
      rw [Nat.mul_succ] at this
      omega
    · exact g
    · have := Nat.mul_le_mul_left m (show (a + y) / m + 1 ≤ (a + x) / m from g)
      rw [Nat.mul_succ] at this
      omega
  rw [hd] at h3
  omega
theorem pickD_ok {at_ n m : Nat} (h1 : 2 ≤ n) (h2 : n ≤ 4) (h3 : n ≤ m) : KOk m (.pick (pickD at_ n m)) := by
  unfold pickD
  refine ⟨by rw [List.length_map, List.length_range]; exact h1, by rw [List.length_map, List.length_range]; exact h2, ?_, fun i hi => ?_⟩
  · refine nodup_map_on List.nodup_range fun x hx y hy e => ?_
    have hx := List.mem_range.mp hx
    have hy := List.mem_range.mp hy
    exact mod_inj (by omega) (by omega) e
  · obtain ⟨k, hk, rfl⟩ := List.mem_map.mp hi
    exact Nat.mod_lt _ (by omega)
def spKind : Sp := fun vs H Q _ => ∃ (t : Addr) (m : Nat) (S : List Addr), vs = [.ref t, .int (m : Int)] ∧ DSt H t ∧ m ≤ 10 ∧ t ∈ S ∧ Occ S H ∧ ∀ kd a H1, KOk m kd → KT S H1 kd a → Off t H H1 → DSt H1 t → Q (.ref a) H1
section
variable {P : Program} {w : World} {K : PySem.W.Frag} {mg : Str → Option Value} {base : Heap}
theorem ok_kind {f : Addr} {fd : FuncData} (F : Fun K "_law_kind" "_law_kind" s_law_kind f fd) (z_int : mg "int" = none) (z_min : mg "min" = none) (z_range : mg "range" = none) (D_law_take : Dn P w K mg base CX0 1 "_law_take" ["_law_box_here", "_law_many"] spDraw) : FnOk P w K mg base CX0 2 f fd ["_law_box_here", "_law_known"] spKind := by
  refine F.ok sc_law_kind (fun vs H Q E h => ?_) (fun cdv A outer s H vs Q E hr h => ?_)
  · obtain ⟨t, m, S, rfl, _⟩ := h
    rfl
  · obtain ⟨t, m, S, rfl, d0, hm, tS, oS, q⟩ := h
    refine ⟨_, (pss_cons (ps_set (i := 2) sc_law_kind.nd rfl (by first | exact Or.inl rfl | exact Or.inr rfl) (pe_cd D_law_take (hr.mono (by first | decide | omega)) (by rfl) pass0 (pa_cons (pv 0) (pa_cons pe_int pa_nil))))
      (pss_cons (ps_set (i := 3) sc_law_kind.nd rfl (by first | exact Or.inl rfl | exact Or.inr rfl) (pe_op op_add pe_int (pe_cd D_law_take (hr.mono (by first | decide | omega)) (by rfl) pass0 (pa_cons (pv 0) (pa_cons pe_int pa_nil)))))
      (pss_cons (ps_if (PW.pt (pw_or (pt_cmpR op_lt (pv 2) pe_int (nomark _)) (pw_or1 (pt_cmpR op_eq (pv 1) pe_int (nomark _))))) (pss_one (ps_ret (pe_ix (ix_listK (K := K)) (pe_lst (pa_cons (pe_tup (pa_cons pe_str (pa_cons (pv 3) pa_nil))) (pa_cons (pe_tup (pa_cons pe_str (pa_cons (pe_op op_add pe_int (pe_cd D_law_take (hr.mono (by first | decide | omega)) (by rfl) pass0 (pa_cons (pv 0) (pa_cons pe_int pa_nil)))) (pa_cons (pe_tup (pa_cons pe_str (pa_cons (pv 3) pa_nil))) pa_nil)))) pa_nil))) (pe_callTy call_int1R (by rfl) z_int (by decide +kernel) (pa_cons (pe_cmpR op_eq (pv 2) pe_int (nomark _)) pa_nil)) (fun _ _ => rfl)))) pss_nil)
      (pss_cons (ps_set (i := 4) sc_law_kind.nd rfl (by first | exact Or.inl rfl | exact Or.inr rfl) (pe_cd D_law_take (hr.mono (by first | decide | omega)) (by rfl) pass0 (pa_cons (pv 0) (pa_cons (pv 1) pa_nil))))
      (pss_cons (ps_if (pt_cmpR op_lt (pv 2) pe_int (nomark _)) (pss_one (ps_ret (pe_tup (pa_cons pe_str (pa_cons (pv 4) pa_nil))))) pss_nil)
      (pss_cons (ps_if (pt_cmpR op_eq (pv 2) pe_int (nomark _)) (pss_one (ps_ret (pe_tup (pa_cons pe_str (pa_cons (pe_op op_add pe_int (pe_cd D_law_take (hr.mono (by first | decide | omega)) (by rfl) pass0 (pa_cons (pv 0) (pa_cons pe_int pa_nil)))) (pa_cons (pe_tup (pa_cons pe_str (pa_cons (pv 4) pa_nil))) pa_nil)))))) pss_nil)
      (pss_cons (ps_if (pt_cmpR op_eq (pv 1) pe_int (nomark _)) (pss_one (ps_ret (pe_tup (pa_cons pe_str (pa_cons (pv 3) pa_nil))))) pss_nil)
      (pss_one (ps_ret (pe_tup (pa_cons pe_str (pa_cons (pe_lc (own := [("_law_k", 5)]) (g := gName 5) (tt := tYes) rfl sc_law_kind.nd (pi_rangeL1 (by rfl) z_range (pa_cons (pe_callB (call_min2R rfl) (by rfl) z_min (by decide +kernel) (pa_cons (pv 1) (pa_cons (pe_op op_add pe_int (pe_cd D_law_take (hr.mono (by first | decide | omega)) (by rfl) pass0 (pa_cons (pv 0) (pa_cons pe_int pa_nil)))) pa_nil))) pa_nil)) (blkOk_by (own := [("_law_k", 5)]) (N := ["_law_box_here", "_law_known", "_law_way", "_law_width", "_law_at", "_law_k"]) (sc := defScope s_law_kind) (by decide +kernel)) (fun _ _ _ _ _ => pg_name (i := 5) sc_law_kind.nd rfl (Or.inl rfl)) (fun _ _ _ _ _ => pts_nil) (fun _ _ _ _ _ => (pe_op op_modN (pe_op op_add (pv 4) (pv 5)) (pv 1)))) pa_nil)))))))))))), ?_⟩
    walk_at "rd"
    refine ⟨t, 8, rfl, d0, by decide, by decide, fun way H1 wa wb o1 d1 => ?_⟩
    walk_at "rd"
    refine ⟨t, 4, rfl, d1, by decide, by decide, fun v0 H2 va vb o2 d2 => ?_⟩
    obtain ⟨wd, ew, w1, w2⟩ : ∃ wd : Nat, 1 + v0 = (wd : Int) ∧ 1 ≤ wd ∧ wd ≤ 4 := ⟨(1 + v0).toNat, by omega, by omega, by omega⟩
    have o12 := o1.trans o2
    have oS2 := (oS.off o1 d1).off o2 d2
    walk_at "rd"
    rw [ew]
    refine ite2 (fun _ => ?a) (fun _ => ite2 (fun _ => ?b) (fun m0 => ?c))
    case a | b =>
      refine ⟨by decide, New.intro fun u1 H3 n3 s3 g3 => ?_⟩
      have d3 := d2.keep s3
      refine ⟨t, 6, rfl, d3, by decide, by decide, fun v1 H4 a4 b4 o4 d4 => ⟨_, rfl, by decide, New.intro fun u2 H5 n5 s5 g5 => ⟨by decide, New.intro fun u3 H6 n6 s6 g6 => ⟨by decide, New.intro fun l H7 n7 s7 g7 => ?_⟩⟩⟩⟩
      obtain ⟨c, ec, c1, c2⟩ : ∃ c : Nat, 1 + v1 = (c : Int) ∧ 1 ≤ c ∧ c ≤ 6 := ⟨(1 + v1).toNat, by omega, by omega, by omega⟩
      rw [ec] at g6
      have oS3 := oS2.same s3
      have oS4 := oS3.off o4 d4
      have g3' := (s5.trans (s6.trans s7)) _ _ (o4 _ _ (Ne.symm (d2.ne n3)) g3)
      have oF : Off t H H7 := (o12.trans (Off.of s3)).trans (o4.trans (Off.of (s5.trans (s6.trans s7))))
      have dF := d4.keep (s5.trans (s6.trans s7))
      refine .inr ⟨_, seq_of g7, ?_⟩
      by_cases w : way = 2
      · rw [if_pos w]
        refine ⟨_, rfl, q (.row c (.num wd)) u3 H7 ⟨c1, c2, .inl ⟨wd, rfl, w1, w2⟩⟩ ⟨(oS4.same s5).fresh n6, u2, s7 _ _ g6, oS4.fresh n5, (s6.trans s7) _ _ g5⟩ oF dF⟩
      · rw [if_neg w]
        exact ⟨_, rfl, q (.num wd) u1 H7 ⟨w1, w2⟩ ⟨oS2.fresh n3, g3'⟩ oF dF⟩
    case c =>
      have hm1 : 1 ≤ m := by omega
      refine ⟨t, m, rfl, d2, by omega, Int.lt_of_le_of_lt (b := 10) (by omega) (by decide), fun v1 H3 a3 b3 o3 d3 => ?_⟩
      obtain ⟨i, rfl⟩ : ∃ i : Nat, v1 = (i : Int) := ⟨v1.toNat, by omega⟩
      have oS3 := oS2.off o3 d3
      have o13 := o12.trans o3
      refine ite2 (fun _ => ⟨by decide, New.intro fun u H4 n4 s4 g4 => ?_⟩) (fun _ => ite2 (fun _ => ?_) (fun _ => ite2 (fun _ => ⟨by decide, New.intro fun u H4 n4 s4 g4 => ?_⟩) (fun mn => ?_)))
      · exact q (.shp i) u H4 (show i < m by omega) ⟨oS3.fresh n4, g4⟩ (o13.trans (Off.of s4)) (d3.keep s4)
      · refine ⟨t, 6, rfl, d3, by decide, by decide, fun v1 H4 a4 b4 o4 d4 => ⟨_, rfl, by decide, New.intro fun u2 H5 n5 s5 g5 => ⟨by decide, New.intro fun u3 H6 n6 s6 g6 => ?_⟩⟩⟩
        obtain ⟨c, ec, c1, c2⟩ : ∃ c : Nat, 1 + v1 = (c : Int) ∧ 1 ≤ c ∧ c ≤ 6 := ⟨(1 + v1).toNat, by omega, by omega, by omega⟩
        rw [ec] at g6
        have oS4 := oS3.off o4 d4
        exact q (.row c (.shp i)) u3 H6 ⟨c1, c2, .inr ⟨i, rfl, by omega⟩⟩ ⟨(oS4.same s5).fresh n6, u2, g6, oS4.fresh n5, s6 _ _ g5⟩ ((o13.trans o4).trans (Off.of (s5.trans s6))) (d4.keep (s5.trans s6))
      · exact q (.num wd) u H4 ⟨w1, w2⟩ ⟨oS3.fresh n4, g4⟩ (o13.trans (Off.of s4)) (d3.keep s4)
      · refine ⟨t, 3, rfl, d3, by decide, by decide, fun v1 H4 a4 b4 o4 d4 => ⟨_, rfl, ?_⟩⟩
        obtain ⟨n, en, n1, n2, n3⟩ : ∃ n : Nat, (if 2 + v1 < (m : Int) then 2 + v1 else (m : Int)).toNat = n ∧ 2 ≤ n ∧ n ≤ 4 ∧ n ≤ m := by
          by_cases g : 2 + v1 < (m : Int)
          · exact ⟨(2 + v1).toNat, by rw [if_pos g], by omega, by omega, by omega⟩
          · exact ⟨m, by rw [if_neg g, Int.toNat_natCast], by omega, by omega, by omega⟩
        rw [en]
        have oS4 := oS3.off o4 d4
        refine Cmp.pureR (fun k => V.int (((i + k) % m : Nat) : Int)) (by omega) (fun _ => rfl) (fun k H5 R hk s5 r => ?_) (fun l H5 n5 s5 g5 => ⟨by decide, New.intro fun u H6 n6 s6 g6 => ?_⟩)
        · walk_at "rd"
          refine ⟨by omega, ?_⟩
          rw [Int.zero_add, ← Int.natCast_add, fmod_nat]
          exact r H5 (Same.refl H5)
        · refine q (.pick (pickD i n m)) u H6 (pickD_ok n1 n2 n3) ⟨(oS4.same s5).fresh n6, l, oS4.fresh n5, g6, ?_⟩ ((o13.trans o4).trans (Off.of (s5.trans s6))) (d4.keep (s5.trans s6))
          rw [s6 _ _ g5]
          unfold pickD
          rw [List.map_map]
          rfl
end

end K10

set_option Elab.async false
set_option linter.all false
set_option pp.deepTerms true
set_option pp.maxSteps 100000
set_option format.indent 1
set_option format.width 260
set_option maxRecDepth 100000
set_option maxHeartbeats 4000000
set_option exponentiation.threshold 2000
namespace K10
open PySem PySem.Spec PyProof.Rows L2 Rb Rx SX Tx Rg Rt Rs
local macro_rules | `(tactic| walk_at "rd") => `(tactic| simp only [L2.start, wMix, rRepr, rIsX, rIsXT, gSlAll, rEqS, rNeL, rNeV, rMulS, rEqL, rNotInT, rMax, tMethV, tListVals, tDGet, iEnum, tDIn, tDNotIn, sDPut, cxOf, tSeq, tAsg, tIfS, tTest, tB, tOp, tUn, tVar, tC, tCB, tCons, tNil, tRet, tRetN, tNext, tDrop, tBM, tBM0, tLst_n, tTup_n, tAnd, tOr, tNot, tAndV, tOrV, tNotV, tIf, tChain, tCall, gName, gTup, gCons, gNil, gUnl, gSub, rI, rI0, rU, rIxL, rIxT, rSlL_n, tSl, tPart, tNoPart, rCatR, rAppend_n, rExtend_n, rPop_n, rClear_n, rSetL_n, rInsert, rRemI_n, tMake_n, sFld_n, tFld, tMeth, rIn, tFor_n, tLc_n, iRngL1, iRngL2, iList, iTup, iRev, iZip, rDivmod, rListOf, rTupOf, rLenSeq, rMin2, rMax2, rAll, rAny, rIsi, tNever, tYes, wipe, tAug, ipI, rEq, rNe, tIsN, tNotN, tDNewK_n, tRz, tCallS, tMethX, tMakeX, tXfA, wAs, wOnly, tVeI, tOst, gSlS, iRng3, rSum, rStrI, rIsB, rNotB, rSlT, rIndex, rRep_n, rInt1, tLenSetS, scal_ii, scal_bb, scal_ss, scal_nn, scal_ni, scal_in, scal_ns, scal_sn, scal_is, scal_si, List.map_cons, List.map_nil, List.length_cons, List.length_nil, List.replicate, List.nil_append, List.cons_append, List.append_nil, List.getElem?_cons_zero, List.getElem?_cons_succ, List.set_cons_zero, List.set_cons_succ, List.set_nil, Nat.reduceAdd, Nat.reduceSub, Option.some.injEq, V.int.injEq, V.ref.injEq, V.bl.injEq, V.str.injEq, V.ty.injEq, List.cons.injEq, and_assoc, and_true, true_and, exists_eq_left, exists_eq_left', exists_and_left, exists_and_right, exists_eq, exists_eq', exists_eq_right, exists_eq_right', if_true, if_false, Bool.false_eq_true, Bool.not_true, Bool.not_false, if_pos, Int.toNat_natCast, decide_eq_true_eq, Bool.not_eq_true', decide_eq_false_iff_not, reduceCtorEq, false_and, and_false, exists_false, exists_const, rIxS, C8.rSlX, rJoinS, rSplitS, tBMS, rIndexX, iStr, tDisp, tPairs])
local macro_rules | `(tactic| walk_at "ex") => `(tactic| repeat' (first | assumption | (with_reducible refine Exists.intro _ ?_) | (with_reducible refine And.intro ?_ ?_) | rfl))

/-! ### tables as the law draws them -/
structure SW (m : Nat) (s : List Nat × Fl) : Prop where
  name : isNameL s.1 = true
  ne : s.2 ≠ []
  len : s.2.length ≤ 6
  each : ∀ p ∈ s.2, isNameL p.1 = true ∧ KOk m p.2
def WfT (T : Tb) : Prop := T.length ≤ 10 ∧ ∀ m s, T[m]? = some s → SW m s
def countK (T : Tb) : Nat → Kd → Nat
  | 0, _ => 0
  | _ + 1, .num _ => 1
  | n + 1, .row m k => m * countK T n k
  | n + 1, .shp i => ((flds T i).map fun p => countK T n p.2).sum
  | _ + 1, .pick _ => 2
theorem sum_rep (b : Nat) : ∀ m : Nat, (List.replicate m b).sum = m * b
  | 0 => by simp
  | m + 1 => by
    rw [List.replicate_succ, List.sum_cons, sum_rep b m, Nat.succ_mul]
    omega
theorem units_count (T : Tb) : ∀ (n : Nat) (k : Kd) (p : List Nat), (unitsK T n k p).length = countK T n k
  | 0, _, _ => rfl
  | _ + 1, .num _, _ => rfl
  | n + 1, .row m k, p => by
    show ((List.range m).flatMap fun i => unitsK T n k (joinedL p (TL.numL i))).length = m * countK T n k
    rw [List.length_flatMap]
    rw [map_congr' (g := fun _ => countK T n k) fun i _ => units_count T n k _]
    rw [List.map_const', List.length_range, sum_rep]
  | n + 1, .shp i, p => by
    show ((flds T i).flatMap fun q => unitsK T n q.2 (joinedL p q.1)).length = ((flds T i).map fun q => countK T n q.2).sum
    rw [List.length_flatMap]
    exact congrArg List.sum (map_congr' fun q _ => units_count T n q.2 _)
  | _ + 1, .pick _, _ => rfl
theorem countK_st {T : Tb} : ∀ {n : Nat} {k : Kd}, Rk T n k → countK T (n + 1) k = countK T n k
  | 0, _, h => h.elim
  | _ + 1, .num _, h => rfl
  | n + 1, .row m k, h => by
    show m * _ = m * _
    rw [countK_st h.2]
  | n + 1, .shp i, h => by
    show List.sum _ = List.sum _
    exact congrArg List.sum (map_congr' fun p hp => countK_st (h.2.2.2.2 p hp).2.2)
  | n + 1, .pick is, h => rfl
theorem countK_le {T : Tb} {n m : Nat} {k : Kd} (h : Rk T n k) (l : n ≤ m) : countK T m k = countK T n k := by
  induction l with
  | refl => rfl
  | step l ih => rw [countK_st (h.le l), ih]
theorem wf_shp {T : Tb} (w : WfT T) {i n : Nat} (hi : i < T.length) (h : ∀ p ∈ flds T i, Rk T n p.2) : Rk T (n + 1) (.shp i) := by
  have e := List.getElem?_eq_getElem hi
  have sw := w.2 i _ e
  have h1 := isName_len sw.name
  refine ⟨hi, by rw [name_at e]; omega, by rw [flds_at e]; have := sw.len; omega, by rw [flds_at e]; exact sw.ne, fun p hp => ⟨?_, ?_, h p hp⟩⟩
  · rw [flds_at e] at hp
    have := isName_len (sw.each p hp).1
    omega
  · rw [flds_at e] at hp
    have := isName_len (sw.each p hp).1
    intro z
    rw [z] at this
    exact absurd this.1 (by decide)
theorem wf_rk {T : Tb} (w : WfT T) : ∀ (m : Nat) (k : Kd), m ≤ T.length → KOk m k → Rk T (2 * m + 2) k := by
  intro m
  induction m using Nat.strongRecOn with
  | _ m ih =>
    intro k hm hk
    have shp : ∀ {i n : Nat}, i < m → 2 * m ≤ n → Rk T (n + 1) (.shp i) := fun {i n} hi hn => by
      have hi' : i < T.length := by omega
      have e := List.getElem?_eq_getElem hi'
      have sw := w.2 i _ e
      refine wf_shp w hi' fun p hp => ?_
      rw [flds_at e] at hp
      exact (ih i hi p.2 (by omega) (sw.each p hp).2).le (by omega)
    cases k with
    | num w =>
      show w ≤ 1000
      have := hk.2
      omega
    | shp i => exact shp hk (by omega)
    | row n k =>
      obtain ⟨h1, h2, h3⟩ := hk
      refine ⟨by omega, ?_⟩
      rcases h3 with ⟨w, rfl, h4, h5⟩ | ⟨i, rfl, hi⟩
      · show w ≤ 1000
        omega
      · exact shp hi (by omega)
    | pick is =>
      obtain ⟨h1, h2, h3, h4⟩ := hk
      exact ⟨fun z => by rw [z] at h1; exact absurd h1 (by decide), by omega, fun i hi => shp (h4 i hi) (by omega)⟩
theorem wf_main {T : Tb} (w : WfT T) {i : Nat} (hi : i < T.length) : Rk T (2 * i + 3) (.shp i) := by
  have e := List.getElem?_eq_getElem hi
  refine wf_shp w hi fun p hp => ?_
  rw [flds_at e] at hp
  exact wf_rk w i p.2 (by omega) ((w.2 i _ e).each p hp).2
theorem wf_24 {T : Tb} (w : WfT T) {i : Nat} (hi : i < T.length) : Rk T 24 (.shp i) := (wf_main w hi).le (by have := w.1; omega)
theorem wf_okT {T : Tb} (w : WfT T) (ne : T ≠ []) : okT T := ⟨w.1, ne, fun i hi => wf_24 w hi⟩
theorem flds_app {T X : Tb} {i : Nat} (h : i < T.length) : flds (T ++ X) i = flds T i := by
  have e := List.getElem?_eq_getElem h
  have e2 : (T ++ X)[i]? = some T[i] := by rw [List.getElem?_append_left h, e]
  rw [flds_at e, flds_at e2]
theorem countK_app {T X : Tb} (w : WfT T) : ∀ (n m : Nat) (k : Kd), m ≤ T.length → KOk m k → countK (T ++ X) n k = countK T n k
  | 0, _, _, _, _ => rfl
  | _ + 1, _, .num _, _, _ => rfl
  | _ + 1, _, .pick _, _, _ => rfl
  | n + 1, m, .row c k, hm, hk => by
    show c * _ = c * _
    rcases hk.2.2 with ⟨w', rfl, h4, h5⟩ | ⟨i, rfl, hi⟩
    · rw [countK_app w n m (.num w') hm ⟨h4, h5⟩]
    · rw [countK_app w n m (.shp i) hm hi]
  | n + 1, m, .shp i, hm, hk => by
    have hi : i < T.length := by
      have : i < m := hk
      omega
    show List.sum _ = List.sum _
    rw [flds_app hi]
    have e := List.getElem?_eq_getElem hi
    refine congrArg List.sum (map_congr' fun p hp => countK_app w n i p.2 (by omega) ?_)
    rw [flds_at e] at hp
    exact ((w.2 i _ e).each p hp).2
def Cnt (T : Tb) : Prop := ∀ i, i < T.length → countK T 24 (.shp i) ≤ 40
theorem wf_snoc {T : Tb} {c : List Nat × Fl} (w : WfT T) (hl : T.length < 10) (h : SW T.length c) : WfT (T ++ [c]) := by
  refine ⟨by rw [List.length_append, List.length_singleton]; omega, fun m s hs => ?_⟩
  by_cases g : m < T.length
  · rw [List.getElem?_append_left g] at hs
    exact w.2 m s hs
  · have := (List.getElem?_eq_some_iff.mp hs).1
    rw [List.length_append, List.length_singleton] at this
    obtain rfl : m = T.length := by omega
    rw [List.getElem?_append_right (Nat.le_refl _), Nat.sub_self] at hs
    cases hs
    exact h
theorem snoc_at {T : Tb} {c : List Nat × Fl} : (T ++ [c])[T.length]? = some c := by
  rw [List.getElem?_append_right (Nat.le_refl _), Nat.sub_self]
  rfl
theorem cnt_cand {T : Tb} {c : List Nat × Fl} (w : WfT T) (hl : T.length < 10) (hc : Cnt T) (h : SW T.length c) : countK (T ++ [c]) 24 (.shp T.length) ≤ 1440 := by
  have w' := wf_snoc w hl h
  show ((flds (T ++ [c]) T.length).map fun p => countK (T ++ [c]) 23 p.2).sum ≤ 1440
  rw [flds_at snoc_at]
  have shp : ∀ {i n : Nat}, i < T.length → n ≤ 24 → Rk (T ++ [c]) n (.shp i) → countK (T ++ [c]) n (.shp i) ≤ 40 := fun {i n} hi hn rk => by
    rw [← countK_le rk hn, countK_app w 24 (i + 1) (.shp i) hi (Nat.lt_succ_self i)]
    exact hc i hi
  have := sum_le (l := c.2.map fun p => countK (T ++ [c]) 23 p.2) (b := 240) fun x hx => by
    obtain ⟨p, hp, rfl⟩ := List.mem_map.mp hx
    obtain ⟨_, hk⟩ := h.each p hp
    have hlen : (T ++ [c]).length = T.length + 1 := by rw [List.length_append, List.length_singleton]
    have rk := (wf_rk w' T.length p.2 (by omega) hk).le (m := 22) (by omega)
    revert hk rk
    generalize p.2 = k
    intro hk rk
    cases k with
    | num _ => show (1 : Nat) ≤ 240; decide
    | pick _ => show (2 : Nat) ≤ 240; decide
    | shp i =>
      have := shp (n := 23) hk (by decide) (rk.le (by decide))
      omega
    | row q k =>
      show q * countK (T ++ [c]) 22 k ≤ 240
      have hq := hk.2.1
      rcases hk.2.2 with ⟨w', rfl, h4, h5⟩ | ⟨i, rfl, hi⟩
      · show q * 1 ≤ 240
        omega
      · have h40 := shp (n := 22) hi (by decide) (rk.2.le (n := 21) (by decide))
        have := Nat.mul_le_mul hq h40
        omega
  rw [List.length_map] at this
  have := h.len
  omega
/-- the shape c fits behind T, as it is begun and as it grows -/
def FitsAll (T : Tb) (c : List Nat × Fl) : Prop := ∀ j, 1 ≤ j → j ≤ c.2.length → fitsB (T ++ [(c.1, c.2.take j)]) = true
structure TabOk (T : Tb) : Prop where
  wf : WfT T
  nd : (T.map (·.1)).Nodup
  fnd : ∀ s ∈ T, (s.2.map (·.1)).Nodup
  fits : ∀ m s, T[m]? = some s → FitsAll (T.take m) s
theorem fits_cnt {T : Tb} {c : List Nat × Fl} (h : fitsB (T ++ [c]) = true) : countK (T ++ [c]) 24 (.shp T.length) ≤ 40 ∧ sizeK (T ++ [c]) 24 (.shp T.length) ≤ 64 ∧ depthK (T ++ [c]) 24 (.shp T.length) ≤ 4 := by
  unfold fitsB mainK at h
  rw [List.length_append, List.length_singleton, Nat.add_sub_cancel, units_count] at h
  simp only [Bool.and_eq_true, decide_eq_true_eq] at h
  exact ⟨h.1.2, h.1.1, h.2⟩
theorem cnt_snoc {T : Tb} {c : List Nat × Fl} (w : WfT T) (hc : Cnt T) (h : fitsB (T ++ [c]) = true) : Cnt (T ++ [c]) := fun i hi => by
  rw [List.length_append, List.length_singleton] at hi
  by_cases g : i < T.length
  · rw [countK_app w 24 (i + 1) (.shp i) g (Nat.lt_succ_self i)]
    exact hc i g
  · obtain rfl : i = T.length := by omega
    exact (fits_cnt h).1
theorem fits_num {T : Tb} {n f : List Nat} {w : Nat} (hw : w ≤ 4) : fitsB (T ++ [(n, [(f, .num w)])]) = true := by
  unfold fitsB mainK
  rw [List.length_append, List.length_singleton, Nat.add_sub_cancel, units_count]
  have e : flds (T ++ [(n, [(f, Kd.num w)])]) T.length = [(f, .num w)] := flds_at snoc_at
  have e1 : sizeK (T ++ [(n, [(f, Kd.num w)])]) 24 (.shp T.length) = (w : Int) := by
    show ((flds (T ++ [(n, [(f, Kd.num w)])]) T.length).map fun p => sizeK (T ++ [(n, [(f, Kd.num w)])]) 23 p.2).sum = _
    rw [e]
    show (w : Int) + 0 = w
    omega
  have e2 : countK (T ++ [(n, [(f, Kd.num w)])]) 24 (.shp T.length) = 1 := by
    show ((flds (T ++ [(n, [(f, Kd.num w)])]) T.length).map fun p => countK (T ++ [(n, [(f, Kd.num w)])]) 23 p.2).sum = _
    rw [e]
    rfl
  have e3 : depthK (T ++ [(n, [(f, Kd.num w)])]) 24 (.shp T.length) = 1 := by
    show 1 + maxL ((flds (T ++ [(n, [(f, Kd.num w)])]) T.length).map fun p => depthK (T ++ [(n, [(f, Kd.num w)])]) 23 p.2) = _
    rw [e]
    rfl
  rw [e1, e2, e3, decide_eq_true (by omega)]
  rfl
/-- what stands behind so many shapes -/
structure PTab (ws : List (List Nat)) (T : Tb) : Prop where
  ok : T ≠ [] → TabOk T
  wf : WfT T
  cnt : Cnt T
  names : T.map (·.1) = ws.take T.length
/-- the fields of the shape that is being made -/
structure PFl (ws : List (List Nat)) (T : Tb) (n : List Nat) (fs : Fl) (turn j : Nat) : Prop where
  len : fs.length ≤ j
  nd : (fs.map (·.1)).Nodup
  from_ : ∀ p ∈ fs, ∃ i, i < j ∧ p.1 = ws.getD ((turn + 5 * i + T.length) % 12) []
  each : ∀ p ∈ fs, isNameL p.1 = true ∧ KOk T.length p.2
  fits : FitsAll T (n, fs)
def spShapes (K : PySem.W.Frag) : Sp := fun vs H Q _ => ∃ (t : Addr) (most : Nat), vs = [.ref t, .int (most : Int)] ∧ DSt H t ∧ 1 ≤ most ∧ most ≤ 5 ∧ ∀ T l H1, TabOk T → T ≠ [] → T.length ≤ most → H l = none → Off t H H1 → DSt H1 t → TblAt [t] H1 l T → Q (.ref l) H1
section
variable {P : Program} {w : World} {K : PySem.W.Frag} {mg : Str → Option Value} {base : Heap}
theorem ok_shapes {f : Addr} {fd : FuncData} (F : Fun K "_law_shapes" "_law_shapes" s_law_shapes f fd) (z_range : mg "range" = none) (D_law_take : Dn P w K mg base CX0 1 "_law_take" ["_law_box_here", "_law_many"] spDraw) (D_law_names : Dn P w K mg base CX0 2 "_law_names" ["_law_box_here"] spNames) (D_law_kind : Dn P w K mg base CX0 2 "_law_kind" ["_law_box_here", "_law_known"] spKind) (D_law_fits : Dn P w K mg base CX0 51 "_law_fits" ["_law_shapes_here"] (spFits K)) : FnOk P w K mg base CX0 52 f fd ["_law_box_here", "_law_most"] (spShapes K) := by
  refine F.ok sc_law_shapes (fun vs H Q E h => ?_) (fun cdv A outer s H vs Q E hr h => ?_)
  · obtain ⟨t, most, rfl, _⟩ := h
    rfl
  · obtain ⟨t, most, rfl, d0, hm1, hm2, q⟩ := h
    refine ⟨_, (pss_cons (ps_set (i := 2) sc_law_shapes.nd rfl (by first | exact Or.inl rfl | exact Or.inr rfl) (pe_cd D_law_names (hr.mono (by first | decide | omega)) (by rfl) pass0 (pa_cons (pv 0) pa_nil)))
      (pss_cons (ps_set (i := 3) sc_law_shapes.nd rfl (by first | exact Or.inl rfl | exact Or.inr rfl) (pe_cd D_law_take (hr.mono (by first | decide | omega)) (by rfl) pass0 (pa_cons (pv 0) (pa_cons pe_int pa_nil))))
      (pss_cons (ps_set (i := 4) sc_law_shapes.nd rfl (by first | exact Or.inl rfl | exact Or.inr rfl) (pe_lst pa_nil))
      (pss_cons (ps_for PassesOwn.never rfl (pi_rangeL1 (by rfl) z_range (pa_cons (pe_op op_add pe_int (pe_cd D_law_take (hr.mono (by first | decide | omega)) (by rfl) pass0 (pa_cons (pv 0) (pa_cons (pv 1) pa_nil)))) pa_nil)) (pg_name (i := 5) sc_law_shapes.nd rfl (by first | exact Or.inl rfl | exact Or.inr rfl)) (pss_cons (ps_set (i := 6) sc_law_shapes.nd rfl (by first | exact Or.inl rfl | exact Or.inr rfl) (pe_lst pa_nil))
      (pss_cons (ps_for PassesOwn.never rfl (pi_rangeL1 (by rfl) z_range (pa_cons (pe_op op_add pe_int (pe_cd D_law_take (hr.mono (by first | decide | omega)) (by rfl) pass0 (pa_cons (pv 0) (pa_cons pe_int pa_nil)))) pa_nil)) (pg_name (i := 7) sc_law_shapes.nd rfl (by first | exact Or.inl rfl | exact Or.inr rfl)) (pss_cons (ps_set (i := 8) sc_law_shapes.nd rfl (by first | exact Or.inl rfl | exact Or.inr rfl) (pe_tup (pa_cons (pe_ix (ix_listK (K := K)) (pv 2) (pe_op op_modN (pe_op op_add (pe_op op_add (pv 3) (pe_op op_mul (pv 7) pe_int)) (pv 5)) pe_int) (fun _ _ => rfl)) (pa_cons (pe_cd D_law_kind (hr.mono (by first | decide | omega)) (by rfl) pass0 (pa_cons (pv 0) (pa_cons (pv 5) pa_nil))) pa_nil))))
      (pss_one (ps_if (pt_val (pe_cd D_law_fits (hr.mono (by first | decide | omega)) (by rfl) pass0 (pa_cons (pe_op (op_catS (K := K)) (pv 4) (pe_lst (pa_cons (pe_tup (pa_cons (pe_ix (ix_listK (K := K)) (pv 2) (pv 5) (fun _ _ => rfl)) (pa_cons (pe_op (op_catS (K := K)) (pv 6) (pe_lst (pa_cons (pv 8) pa_nil))) pa_nil))) pa_nil))) pa_nil))) (pss_one (ps_expr (pe_bmK (K := K) PySem.F.plainAttrs_list PySem.F.slot_list_append PySem.F.type_list_append mt_append (pv 6) (pa_cons (pv 8) pa_nil)))) pss_nil))))
      (pss_cons (ps_if (pt_cmpR (op_eqL hr.units (K := K)) (pv 6) (pe_lst pa_nil) (nomark _)) (pss_one (ps_set (i := 6) sc_law_shapes.nd rfl (by first | exact Or.inl rfl | exact Or.inr rfl) (pe_lst (pa_cons (pe_tup (pa_cons (pe_ix (ix_listK (K := K)) (pv 2) (pv 3) (fun _ _ => rfl)) (pa_cons (pe_tup (pa_cons pe_str (pa_cons (pe_op op_add pe_int (pe_cd D_law_take (hr.mono (by first | decide | omega)) (by rfl) pass0 (pa_cons (pv 0) (pa_cons pe_int pa_nil)))) pa_nil))) pa_nil))) pa_nil)))) pss_nil)
      (pss_one (ps_expr (pe_bmK (K := K) PySem.F.plainAttrs_list PySem.F.slot_list_append PySem.F.type_list_append mt_append (pv 4) (pa_cons (pe_tup (pa_cons (pe_ix (ix_listK (K := K)) (pv 2) (pv 5) (fun _ _ => rfl)) (pa_cons (pv 6) pa_nil))) pa_nil))))))))
      (pss_one (ps_ret (pv 4))))))), ?_⟩
    walk_at "rd"
    refine ⟨t, rfl, d0, fun ws nl H1 nok nnl o1 d1 g1 => ?_⟩
    try walk_at "rd"
    refine ⟨t, 12, rfl, d1, by decide, by decide, fun v0 H2 va vb o2 d2 => ?_⟩
    obtain ⟨turn, rfl⟩ : ∃ v : Nat, v0 = (v : Int) := ⟨v0.toNat, by omega⟩
    try walk_at "rd"
    refine ⟨by decide, New.intro fun sh H3 n3 s3 g3 => ?_⟩
    have d3 := d2.keep s3
    refine ⟨t, most, rfl, d3, by omega, Int.lt_of_le_of_lt (b := 5) (by omega) (by decide), fun v1 H4 a4 b4 o4 d4 => ?_⟩
    try walk_at "rd"
    have nsh : H sh = none := noneD o1 d0 d1 (noneD o2 d1 d2 n3)
    have nesh : sh ≠ t := Ne.symm (d2.ne n3)
    have nlt : nl ≠ t := Ne.symm (d0.ne nnl)
    have g4n : H4 nl = some (.lst (wds ws)) := o4 _ _ nlt (s3 _ _ (o2 _ _ nlt g1))
    have nlsh : nl ≠ sh := fun e => by
      rw [e] at g1
      have := o2 _ _ nesh g1
      rw [n3] at this
      cases this
    have g4s := o4 _ _ nesh g3
    have offsh : ∀ {HA HB : Hp}, Off t H HA → Off sh HA HB → Off t H HB := fun oA oB b o nb hb => oB b o (ne_of_none hb nsh) (oA b o nb hb)
    have o04 : Off t H H4 := ((o1.trans o2).trans (Off.of s3)).trans o4
    have wlen := nok.1
    have nameAt : ∀ {j : Nat}, j < 12 → (wds ws)[j]? = some (.str (S (ws.getD j []))) ∧ isNameL (ws.getD j []) = true := fun {j} hj => by
      have e := getD_at (l := ws) (d := []) (show j < ws.length by omega)
      refine ⟨?_, nok.2.2 _ (List.mem_of_getElem? e)⟩
      unfold wds
      rw [List.getElem?_map, e]
      rfl
    have nameInj : ∀ {i j : Nat}, i < 12 → j < 12 → ws.getD i [] = ws.getD j [] → i = j := fun {i j} hi hj e => by
      have e1 := getD_at (l := ws) (d := []) (show i < ws.length by omega)
      have e2 := getD_at (l := ws) (d := []) (show j < ws.length by omega)
      rw [e] at e1
      exact nd_ix nok.2.1 e1 e2
    have ix : ∀ (b c : Nat), ((turn : Int) + (0 + (c : Int)) * 5 + (0 + (b : Int))).fmod 12 = (((turn + 5 * c + b) % 12 : Nat) : Int) := fun b c => by
      have := fmod_nat (turn + 5 * c + b) 12
      rw [← this]
      congr 1
      omega
    refine Loop.range (fun i σ HA => ∃ T xs y5 y6 y7 y8, σ = [some (.ref t), some (.int (most : Int)), some (.ref nl), some (.int (turn : Int)), some (.ref sh), y5, y6, y7, y8] ∧ PTab ws T ∧ T.length = i ∧ DSt HA t ∧ HA nl = some (.lst (wds ws)) ∧ HA sh = some (.lst xs) ∧ TbL [t, sh] HA xs T ∧ Off t H HA)
      ⟨[], [], _, _, _, _, rfl, ⟨fun h => absurd rfl h, ⟨Nat.zero_le _, fun m s h => by simp at h⟩, fun i h => absurd h (Nat.not_lt_zero _), rfl⟩, rfl, d4, g4n, g4s, Paired.nil, o04⟩ ?_ ?_
    · rintro i σ HA hi ⟨T, xs, y5, y6, y7, y8, rfl, pt, tl, dA, gA, sA, tA, oA⟩
      have hi5 : i < 5 := by omega
      subst tl
      walk_at "rd"
      refine ⟨by decide, New.intro fun f0 HB nf sB gB => ?_⟩
      have dB := dA.keep sB
      refine ⟨t, 5, rfl, dB, by decide, by decide, fun v2 HC a5 b5 oC dC => ⟨_, rfl, ?_⟩⟩
      have nft : f0 ≠ t := Ne.symm (dA.ne nf)
      have nfs : f0 ≠ sh := fun e => by
        subst e
        rw [sA] at nf
        cases nf
      have nfn : f0 ≠ nl := fun e => by
        subst e
        rw [gA] at nf
        cases nf
      have tS : t ∈ [t, sh, f0] := List.mem_cons_self
      have nlS : nl ∉ [t, sh, f0] := fun m => by
        simp only [List.mem_cons, List.not_mem_nil, or_false] at m
        rcases m with m | m | m
        · exact nlt m
        · exact nlsh m
        · exact nfn m.symm
      have shS : ∀ a ∈ [t, sh, f0], a ∈ [t, sh] ∨ HA a = none := fun a m => by
        simp only [List.mem_cons, List.not_mem_nil, or_false] at m
        rcases m with rfl | rfl | rfl
        · exact .inl (by simp)
        · exact .inl (by simp)
        · exact .inr nf
      have tB' : TbL [t, sh, f0] HB xs T := (tA.sub shS).keep (OffS.same sB)
      have tC : TbL [t, sh, f0] HC xs T := tB'.keep (OffS.off oC tS)
      have sC := oC _ _ nesh (sB _ _ sA)
      have gC := oC _ _ nlt (sB _ _ gA)
      have fC := oC _ _ nft gB
      have oC0 : Off t H HC := (oA.trans (Off.of sB)).trans oC
      have hname := nameAt (j := T.length) (by omega)
      refine Loop.range (fun j σ HD => ∃ fs ys y7 y8, σ = [some (.ref t), some (.int (most : Int)), some (.ref nl), some (.int (turn : Int)), some (.ref sh), some (.int (0 + (T.length : Int))), some (.ref f0), y7, y8] ∧ PFl ws T (ws.getD T.length []) fs turn j ∧ DSt HD t ∧ HD nl = some (.lst (wds ws)) ∧ HD sh = some (.lst xs) ∧ TbL [t, sh, f0] HD xs T ∧ HD f0 = some (.lst ys) ∧ FlL [t, sh, f0] HD ys fs ∧ Off t H HD)
        ⟨[], [], _, _, rfl, ⟨Nat.le_refl _, List.nodup_nil, fun p h => (nomatch h), fun p h => (nomatch h), fun j h1 h2 => by simp at h2; omega⟩, dC, gC, sC, tC, fC, Paired.nil, oC0⟩ ?_ ?_
      · rintro j σ HD hj ⟨fs, ys, y7, y8, rfl, pf, dD, gD, sD, tD, fD, flD, oD⟩
        have hj5 : j < 5 := by omega
        walk_at "rd"
        have dO : Occ [t, sh, f0] HD := fun a m => by
          simp only [List.mem_cons, List.not_mem_nil, or_false] at m
          rcases m with rfl | rfl | rfl
          · obtain ⟨_, _, _, h⟩ := dD
            exact ⟨_, h⟩
          · exact ⟨_, sD⟩
          · exact ⟨_, fD⟩
        obtain ⟨nm1, nm2⟩ := nameAt (j := (turn + 5 * j + T.length) % 12) (Nat.mod_lt _ (by decide))
        refine ⟨.inr ⟨by decide, by decide⟩, by decide, _, seq_of gD, _, at_of (ix T.length j) nm1, ?_⟩
        refine ⟨t, T.length, [t, sh, f0], by rw [Int.zero_add], dD, by omega, tS, dO, fun kd a HE kok ka oE dE => ?_⟩
        have gE := oE _ _ nlt gD
        have sE := oE _ _ nesh sD
        have fE := oE _ _ nft fD
        have oES : OffS [t, sh, f0] HD HE := OffS.off oE tS
        have tE := tD.keep oES
        have flE := flD.keep oES
        have dOE := dO.off oE dE
        have lenx := Paired.length tE
        have leny := Paired.length flE
        have fsl := pf.len
        refine ⟨by decide, New.intro fun u HF nu sF gF => ⟨_, seq_of (sF _ _ gE), _, (by rw [Int.zero_add]; exact atI_nat hname.1), by decide, New.intro fun l1 HG n1 sG gG => ?_⟩⟩
        refine ⟨_, seq_of ((sF.trans sG) _ _ fE), _, seq_of gG, by rw [sizeLine_eq]; simp; omega, New.intro fun l2 HI n2 sI gI => ⟨by decide, New.intro fun u2 HJ n3 sJ gJ => ⟨by decide, New.intro fun l3 HK n4 sK gK => ?_⟩⟩⟩
        have sEK := sF.trans (sG.trans (sI.trans (sJ.trans sK)))
        refine ⟨_, seq_of (sEK _ _ sE), _, seq_of gK, by rw [sizeLine_eq]; simp; omega, New.intro fun l4 HL n5 sL gL => ?_⟩
        have sEL := sEK.trans sL
        obtain ⟨nm, hnm⟩ : ∃ nm, nm = ws.getD ((turn + 5 * j + T.length) % 12) [] := ⟨_, rfl⟩
        rw [← hnm] at gF nm2
        have sw : SW T.length (ws.getD T.length [], fs ++ [(nm, kd)]) := ⟨hname.2, by simp, by simp; omega, fun p hp => by
          rcases List.mem_append.mp hp with hp | hp
          · exact pf.each p hp
          · rw [List.mem_singleton.mp hp]
            exact ⟨nm2, kok⟩⟩
        have em : mainK (T ++ [(ws.getD T.length [], fs ++ [(nm, kd)])]) = .shp T.length := by
          unfold mainK
          rw [List.length_append, List.length_singleton, Nat.add_sub_cancel]
        have w' := wf_snoc pt.wf (by omega) sw
        have uL : HL u = some (.tup [.str (S nm), .ref a]) := (sG.trans (sI.trans (sJ.trans (sK.trans sL)))) _ _ gF
        have tb : TblAt [] HL l4 (T ++ [(ws.getD T.length [], fs ++ [(nm, kd)])]) := ⟨_, gL, psnoc (tE.keep (OffS.same sEL)).nil ⟨u2, l2, _, rfl, List.not_mem_nil, List.not_mem_nil, (sK.trans sL) _ _ gJ, (sJ.trans (sK.trans sL)) _ _ gI, psnoc ((flE.keep (OffS.same sEL)).sub fun _ m => absurd m List.not_mem_nil) ⟨u, a, rfl, List.not_mem_nil, uL, (ka.keep (OffS.same sEL)).nil⟩⟩⟩
        refine ⟨l4, _, rfl, tb, by simp, by rw [em]; exact wf_24 w' (by rw [List.length_append, List.length_singleton]; omega), by rw [em, units_count]; have := cnt_cand pt.wf (by omega) pt.cnt sw; omega, fun HM sM => ⟨_, rfl, ?_⟩⟩
        have sEM := sEL.trans sM
        have oM : Off t H HM := (oD.trans oE).trans (Off.of sEM)
        by_cases fb : fitsB (T ++ [(ws.getD T.length [], fs ++ [(nm, kd)])]) = true
        · refine iteP fb ⟨tyv_list (seq_of (sEM _ _ fE)), _, sEM _ _ fE, by rw [sizeLine_eq]; omega, Upd.intro fun HN oN gN => ?_⟩
          have f0S : f0 ∈ [t, sh, f0] := by simp
          have oMN : OffS [t, sh, f0] HM HN := OffS.off oN f0S
          have oEN := (OffS.same sEM).trans oMN
          refine ⟨fs ++ [(nm, kd)], ⟨by simp; omega, ?_, fun p hp => ?_, sw.each, fun j' h1 h2 => ?_⟩, ?_, oN _ _ (Ne.symm nfn) (sEM _ _ gE), oN _ _ (Ne.symm nfs) (sEM _ _ sE), tE.keep oEN, _, gN, psnoc (flE.keep oEN) ⟨u, a, rfl, dOE.fresh nu, oN _ _ (fun e => by rw [e, fE] at nu; cases nu) (sM _ _ uL), ka.keep oEN⟩, ?_⟩
          · rw [List.map_append, List.nodup_append]
            refine ⟨pf.nd, List.nodup_cons.mpr ⟨List.not_mem_nil, List.nodup_nil⟩, fun x hx y hy e => ?_⟩
            obtain ⟨p, hp, rfl⟩ := List.mem_map.mp hx
            rw [List.map_singleton, List.mem_singleton] at hy
            obtain ⟨i', hi', ep⟩ := pf.from_ p hp
            have e2 := nameInj (Nat.mod_lt _ (by decide)) (Nat.mod_lt _ (by decide)) ((ep.symm.trans (e.trans hy)).trans hnm)
            omega
          · rcases List.mem_append.mp hp with hp | hp
            · obtain ⟨i', hi', ep⟩ := pf.from_ p hp
              exact ⟨i', by omega, ep⟩
            · rw [List.mem_singleton.mp hp]
              exact ⟨j, by omega, hnm⟩
          · by_cases g : j' ≤ fs.length
            · show fitsB (T ++ [(ws.getD T.length [], (fs ++ [(nm, kd)]).take j')]) = true
              rw [List.take_append_of_le_length g]
              exact pf.fits j' h1 g
            · have h2' : j' ≤ (fs ++ [(nm, kd)]).length := h2
              rw [List.length_append, List.length_singleton] at h2'
              show fitsB (T ++ [(ws.getD T.length [], (fs ++ [(nm, kd)]).take j')]) = true
              rw [List.take_of_length_le (by rw [List.length_append, List.length_singleton]; omega)]
              exact fb
          · obtain ⟨r, k, c, h⟩ := dE
            exact ⟨r, k, c, oN _ _ (Ne.symm nft) (sEM _ _ h)⟩
          · exact fun b o nb hb => oN b o (ne_of_none hb (noneD oA d0 dA nf)) (oM b o nb hb)
        · refine iteN fb ⟨fs, ⟨by omega, pf.nd, fun p hp => ?_, pf.each, pf.fits⟩, dE.keep sEM, sEM _ _ gE, sEM _ _ sE, tE.keep (OffS.same sEM), _, sEM _ _ fE, flE.keep (OffS.same sEM), oM⟩
          obtain ⟨i', hi', ep⟩ := pf.from_ p hp
          exact ⟨i', by omega, ep⟩
      · rintro σ HD ⟨fs, ys, y7, y8, rfl, pf, dD, gD, sD, tD, fD, flD, oD⟩
        walk_at "rd"
        have fin : ∀ {fX : Addr} {HX : Hp} {ysX : List V} {fsX : Fl}, DSt HX t → HX nl = some (.lst (wds ws)) → HX sh = some (.lst xs) → TbL [t, sh] HX xs T → fX ∉ [t, sh] → HX fX = some (.lst ysX) → FlL [t, sh] HX ysX fsX → Off t H HX → SW T.length (ws.getD T.length [], fsX) → (fsX.map (·.1)).Nodup → FitsAll T (ws.getD T.length [], fsX) →
            (tyV K "list" (V.ref sh) HX ∧ ∃ x, SqL K HX nl x ∧ ∃ x_2, atI x (0 + (T.length : Int)) = some x_2 ∧ 2 ≤ sizeLine ∧ New HX (HO.tup [x_2, V.ref fX]) fun p H2 => ∃ x, H2 sh = some (HO.lst x) ∧ x.length < sizeLine ∧ Upd H2 sh (HO.lst (x ++ [V.ref p])) fun H2 => ∃ x, PTab ws x ∧ List.length x = T.length + 1 ∧ DSt H2 t ∧ H2 nl = some (HO.lst (wds ws)) ∧ ∃ x_3, H2 sh = some (HO.lst x_3) ∧ TbL [t, sh] H2 x_3 x ∧ Rb.Off t H H2) := by
          intro fX HX ysX fsX dX gX sX tX nX fX' flX oX sw nd fits
          have lenx := Paired.length tX
          refine ⟨tyv_list (seq_of sX), _, seq_of gX, _, (by rw [Int.zero_add]; exact atI_nat hname.1), by decide, New.intro fun u HY nu sY gY => ⟨_, sY _ _ sX, by rw [sizeLine_eq]; omega, Upd.intro fun HZ oZ gZ => ?_⟩⟩
          have shS : sh ∈ [t, sh] := by simp
          have oXZ : OffS [t, sh] HX HZ := (OffS.same sY).trans (OffS.off oZ shS)
          have uS : u ∉ [t, sh] := fun m => by
            simp only [List.mem_cons, List.not_mem_nil, or_false] at m
            rcases m with rfl | rfl
            · exact dX.ne nu rfl
            · rw [sX] at nu
              cases nu
          have fb : fitsB (T ++ [(ws.getD T.length [], fsX)]) = true := by
            have := fits fsX.length (List.length_pos_iff.mpr sw.ne) (Nat.le_refl _)
            rw [List.take_length] at this
            exact this
          have names : (T ++ [(ws.getD T.length [], fsX)]).map (·.1) = ws.take (T.length + 1) := by
            rw [List.map_append, pt.names, take_snoc (getD_at (d := []) (show T.length < ws.length by omega))]
            rfl
          have w' := wf_snoc pt.wf (by omega) sw
          refine ⟨T ++ [(ws.getD T.length [], fsX)], ⟨fun _ => ⟨w', ?_, fun s hs => ?_, fun m s hs => ?_⟩, w', cnt_snoc pt.wf pt.cnt fb, by rw [names, List.length_append, List.length_singleton]⟩, by rw [List.length_append, List.length_singleton], ?_, oZ _ _ nlsh (sY _ _ gX), _, gZ, psnoc (tX.keep oXZ) ⟨u, fX, ysX, rfl, uS, nX, oZ _ _ (fun e => uS (by rw [e]; exact shS)) gY, oXZ _ _ nX fX', flX.keep oXZ⟩, offsh (oX.trans (Off.of sY)) oZ⟩
          · rw [names]
            exact nok.2.1.sublist (List.take_sublist _ _)
          · rcases List.mem_append.mp hs with hs | hs
            · exact (pt.ok (List.ne_nil_of_mem hs)).fnd s hs
            · rw [List.mem_singleton.mp hs]
              exact nd
          · by_cases g : m < T.length
            · rw [List.getElem?_append_left g] at hs
              rw [List.take_append_of_le_length (Nat.le_of_lt g)]
              exact (pt.ok (fun e => by rw [e] at g; exact absurd g (Nat.not_lt_zero _))).fits m s hs
            · have := (List.getElem?_eq_some_iff.mp hs).1
              rw [List.length_append, List.length_singleton] at this
              obtain rfl : m = T.length := by omega
              rw [snoc_at] at hs
              cases hs
              rw [List.take_append_of_le_length (Nat.le_refl _), List.take_length]
              exact fits
          · obtain ⟨r, k, c, h⟩ := dX
            exact ⟨r, k, c, oZ _ _ (Ne.symm nesh) (sY _ _ h)⟩
        refine ⟨by decide, New.intro fun e0 HE ne sE gE => ⟨_, seq_of (sE _ _ fD), _, seq_of gE, ?_⟩⟩
        have sub2 : ∀ a ∈ [t, sh], a ∈ [t, sh, f0] ∨ HD a = none := fun a m => by
          simp only [List.mem_cons, List.not_mem_nil, or_false] at m ⊢
          rcases m with m | m
          · exact .inl (.inl m)
          · exact .inl (.inr (.inl m))
        have f0n : f0 ∉ [t, sh] := fun m => by
          simp only [List.mem_cons, List.not_mem_nil, or_false] at m
          exact m.elim nft nfs
        have leny := Paired.length flD
        by_cases g : fs = []
        · subst g
          obtain rfl : ys = [] := List.eq_nil_of_length_eq_zero leny
          refine .inr ⟨rfl, rfl, _, seq_of (sE _ _ gD), _, atI_nat (nameAt (j := turn) (by omega)).1, t, 4, rfl, dD.keep sE, by decide, by decide, fun v3 HF a6 b6 oF dF => ⟨_, rfl, by decide, New.intro fun u1 HG n1 sG gG => ⟨by decide, New.intro fun u2 HI n2 sI gI => ⟨by decide, New.intro fun l HJ n3 sJ gJ => ?_⟩⟩⟩⟩
          obtain ⟨wd, ew, w1, w2⟩ : ∃ wd : Nat, 1 + v3 = (wd : Int) ∧ 1 ≤ wd ∧ wd ≤ 4 := ⟨(1 + v3).toNat, by omega, by omega, by omega⟩
          rw [ew] at gG
          have tS2 : t ∈ [t, sh] := by simp
          have oDJ : OffS [t, sh] HD HJ := (OffS.same sE).trans ((OffS.off oF tS2).trans (OffS.same (sG.trans (sI.trans sJ))))
          have occ : Occ [t, sh] HF := fun a m => by
            simp only [List.mem_cons, List.not_mem_nil, or_false] at m
            rcases m with rfl | rfl
            · obtain ⟨_, _, _, h⟩ := dF
              exact ⟨_, h⟩
            · exact ⟨_, oF _ _ nesh (sE _ _ sD)⟩
          have sFJ := sG.trans (sI.trans sJ)
          refine fin (fX := l) (fsX := [(ws.getD turn [], .num wd)]) (dF.keep sFJ) (sFJ _ _ (oF _ _ nlt (sE _ _ gD))) (sFJ _ _ (oF _ _ nesh (sE _ _ sD))) ((tD.sub sub2).keep oDJ) (((occ.same sG).same sI).fresh n3) gJ (.cons ⟨u2, u1, rfl, (occ.same sG).fresh n2, sJ _ _ gI, occ.fresh n1, (sI.trans sJ) _ _ gG⟩ .nil) (((oD.trans (Off.of sE)).trans oF).trans (Off.of sFJ)) ⟨hname.2, by simp, by simp, fun p hp => by rw [List.mem_singleton.mp hp]; exact ⟨(nameAt (j := turn) (by omega)).2, w1, w2⟩⟩ (List.nodup_cons.mpr ⟨List.not_mem_nil, List.nodup_nil⟩) (fun j h1 h2 => ?_)
          have h2' : j ≤ 1 := h2
          obtain rfl : j = 1 := by omega
          exact fits_num w2
        · refine .inl ⟨fun e => g (List.eq_nil_of_length_eq_zero (by rw [← leny, e]; rfl)), ?_⟩
          have oS : OffS [t, sh] HD HE := OffS.same sE
          have := pf.len
          exact fin (fX := f0) (dD.keep sE) (sE _ _ gD) (sE _ _ sD) ((tD.sub sub2).keep oS) f0n (sE _ _ fD) ((flD.sub sub2).keep oS) (oD.trans (Off.of sE)) ⟨hname.2, g, by show fs.length ≤ 6; omega, pf.each⟩ pf.nd pf.fits
    · rintro σ HA ⟨T, xs, y5, y6, y7, y8, rfl, pt, tl, dA, gA, sA, tA, oA⟩
      walk_at "rd"
      have hne : T ≠ [] := fun e => by
        rw [e] at tl
        simp at tl
        omega
      refine q T sh HA (pt.ok hne) hne (by omega) nsh oA dA ⟨xs, sA, tA.sub fun a m => .inl (by simp only [List.mem_cons, List.not_mem_nil, or_false] at m ⊢; exact .inl m)⟩
end

end K10

set_option Elab.async false
set_option linter.all false
set_option pp.deepTerms true
set_option pp.maxSteps 100000
set_option format.indent 1
set_option format.width 260
set_option maxRecDepth 100000
set_option maxHeartbeats 4000000
set_option exponentiation.threshold 2000
namespace K10
open PySem PySem.Spec PyProof.Rows L2 Rb Rx SX Tx Rg Rt Rs
local macro_rules | `(tactic| walk_at "rd") => `(tactic| simp only [L2.start, wMix, rRepr, rIsX, rIsXT, gSlAll, rEqS, rNeL, rNeV, rMulS, rEqL, rNotInT, rMax, tMethV, tListVals, tDGet, iEnum, tDIn, tDNotIn, sDPut, cxOf, tSeq, tAsg, tIfS, tTest, tB, tOp, tUn, tVar, tC, tCB, tCons, tNil, tRet, tRetN, tNext, tDrop, tBM, tBM0, tLst_n, tTup_n, tAnd, tOr, tNot, tAndV, tOrV, tNotV, tIf, tChain, tCall, gName, gTup, gCons, gNil, gUnl, gSub, rI, rI0, rU, rIxL, rIxT, rSlL_n, tSl, tPart, tNoPart, rCatR, rAppend_n, rExtend_n, rPop_n, rClear_n, rSetL_n, rInsert, rRemI_n, tMake_n, sFld_n, tFld, tMeth, rIn, tFor_n, tLc_n, iRngL1, iRngL2, iList, iTup, iRev, iZip, rDivmod, rListOf, rTupOf, rLenSeq, rMin2, rMax2, rAll, rAny, rIsi, tNever, tYes, wipe, tAug, ipI, rEq, rNe, tIsN, tNotN, tDNewK_n, tRz, tCallS, tMethX, tMakeX, tXfA, wAs, wOnly, tVeI, tOst, gSlS, iRng3, rSum, rStrI, rIsB, rNotB, rSlT, rIndex, rRep_n, rInt1, tLenSetS, scal_ii, scal_bb, scal_ss, scal_nn, scal_ni, scal_in, scal_ns, scal_sn, scal_is, scal_si, List.map_cons, List.map_nil, List.length_cons, List.length_nil, List.replicate, List.nil_append, List.cons_append, List.append_nil, List.getElem?_cons_zero, List.getElem?_cons_succ, List.set_cons_zero, List.set_cons_succ, List.set_nil, Nat.reduceAdd, Nat.reduceSub, Option.some.injEq, V.int.injEq, V.ref.injEq, V.bl.injEq, V.str.injEq, V.ty.injEq, List.cons.injEq, and_assoc, and_true, true_and, exists_eq_left, exists_eq_left', exists_and_left, exists_and_right, exists_eq, exists_eq', exists_eq_right, exists_eq_right', if_true, if_false, Bool.false_eq_true, Bool.not_true, Bool.not_false, if_pos, Int.toNat_natCast, decide_eq_true_eq, Bool.not_eq_true', decide_eq_false_iff_not, reduceCtorEq, false_and, and_false, exists_false, exists_const, rIxS, C8.rSlX, rJoinS, rSplitS, tBMS, rIndexX, iStr, tDisp, tPairs])
local macro_rules | `(tactic| walk_at "ex") => `(tactic| repeat' (first | assumption | (with_reducible refine Exists.intro _ ?_) | (with_reducible refine And.intro ?_ ?_) | rfl))

/-! ### shapes.py: the objects -/
structure KC where
  nu : Addr
  ne : Addr
  ma : Addr
  pi : Addr
  sh : Addr
def stab : HO → Prop
  | .tup _ => True
  | .ins _ _ ((k, _) :: _) => (k == Str.ofString "known") = false
  | _ => False
theorem st1 {C dx : Addr} {k : Str} {v : V} {r : List (Str × V)} (h : (k == Str.ofString "known") = false) : stab (.ins C dx ((k, v) :: r)) := h
/-- what never changes stays -/
def Stb (H H1 : Hp) : Prop := ∀ a o, stab o → H a = some o → H1 a = some o
theorem Stb.of {H H1 : Hp} (s : Same H H1) : Stb H H1 := fun a o _ h => s a o h
theorem Stb.trans {H H1 H2 : Hp} (p : Stb H H1) (q : Stb H1 H2) : Stb H H2 := fun a o s h => q a o s (p a o s h)
theorem Stb.refl {H : Hp} : Stb H H := fun _ _ _ h => h
theorem Stb.off {t : Addr} {u : HO} {H H1 : Hp} (o : Off t H H1) (h : H t = some u) (n : ¬ stab u) : Stb H H1 := fun a v s e => o a v (fun e2 => by
  subst e2
  rw [h] at e
  cases e
  exact n s) e
def KA (C : KC) (ss : List Addr) (H : Hp) : Kd → Addr → Prop
  | .num w, a => ∃ dx, H a = some (.ins C.nu dx [("width", .int (w : Int))])
  | .shp i, a => ∃ dx s, ss[i]? = some s ∧ H a = some (.ins C.ne dx [("shape", .ref s)])
  | .row n k, a => ∃ dx b, H a = some (.ins C.ma dx [("count", .int (n : Int)), ("kind", .ref b)]) ∧ KA C ss H k b
  | .pick is, a => ∃ dx t ps, H a = some (.ins C.pi dx [("shapes", .ref t)]) ∧ H t = some (.tup ps) ∧ Paired (fun x i => ∃ s, ss[i]? = some s ∧ x = V.ref s) ps is
theorem KA.keep {C : KC} {ss : List Addr} {H H1 : Hp} (o : Stb H H1) : ∀ {k : Kd} {a : Addr}, KA C ss H k a → KA C ss H1 k a
  | .num _, _, ⟨dx, h⟩ => ⟨dx, o _ _ (st1 (by decide +kernel)) h⟩
  | .shp _, _, ⟨dx, s, e, h⟩ => ⟨dx, s, e, o _ _ (st1 (by decide +kernel)) h⟩
  | .row _ _, _, ⟨dx, b, h, k⟩ => ⟨dx, b, o _ _ (st1 (by decide +kernel)) h, k.keep o⟩
  | .pick _, _, ⟨dx, t, ps, h, k, r⟩ => ⟨dx, t, ps, o _ _ (st1 (by decide +kernel)) h, o _ (.tup _) trivial k, r⟩
theorem KA.ext {C : KC} {ss X : List Addr} {H : Hp} : ∀ {k : Kd} {a : Addr}, KA C ss H k a → KA C (ss ++ X) H k a := by
  have e1 : ∀ {i : Nat} {s : Addr}, ss[i]? = some s → (ss ++ X)[i]? = some s := fun {i s} h => by
    rw [List.getElem?_append_left (List.getElem?_eq_some_iff.mp h).1]
    exact h
  intro k
  induction k with
  | num _ => exact fun h => h
  | shp _ => exact fun ⟨dx, s, e, h⟩ => ⟨dx, s, e1 e, h⟩
  | row _ _ ih => exact fun ⟨dx, b, h, k⟩ => ⟨dx, b, h, ih k⟩
  | pick _ => exact fun ⟨dx, t, ps, h, k, r⟩ => ⟨dx, t, ps, h, k, Paired.mapP r fun x i ⟨s, e, h⟩ => ⟨s, e1 e, h⟩⟩
def FA (C : KC) (ss : List Addr) (H : Hp) : List V → Fl → Prop := Paired fun y p => ∃ b c, y = .ref b ∧ H b = some (.tup [.str (SX.S p.1), .ref c]) ∧ KA C ss H p.2 c
theorem FA.keep {C : KC} {ss : List Addr} {H H1 : Hp} {ys : List V} {fs : Fl} (h : FA C ss H ys fs) (o : Stb H H1) : FA C ss H1 ys fs := Paired.mapP h fun y p ⟨b, c, e, h, k⟩ => ⟨b, c, e, o _ (.tup _) trivial h, k.keep o⟩
theorem FA.ext {C : KC} {ss X : List Addr} {H : Hp} {ys : List V} {fs : Fl} (h : FA C ss H ys fs) : FA C (ss ++ X) H ys fs := Paired.mapP h fun y p ⟨b, c, e, h, k⟩ => ⟨b, c, e, h, k.ext⟩
def SA (C : KC) (ss : List Addr) (H : Hp) (c : List Nat × Fl) (s : Addr) : Prop := ∃ dx t ys, H s = some (.ins C.sh dx [("name", .str (SX.S c.1)), ("fields", .ref t)]) ∧ H t = some (.tup ys) ∧ FA C ss H ys c.2
theorem SA.keep {C : KC} {ss : List Addr} {H H1 : Hp} {c : List Nat × Fl} {s : Addr} (h : SA C ss H c s) (o : Stb H H1) : SA C ss H1 c s := let ⟨dx, t, ys, h1, h2, h3⟩ := h; ⟨dx, t, ys, o _ _ (st1 (by decide +kernel)) h1, o _ (.tup _) trivial h2, h3.keep o⟩
theorem SA.ext {C : KC} {ss X : List Addr} {H : Hp} {c : List Nat × Fl} {s : Addr} (h : SA C ss H c s) : SA C (ss ++ X) H c s := let ⟨dx, t, ys, h1, h2, h3⟩ := h; ⟨dx, t, ys, h1, h2, h3.ext⟩
def TA (C : KC) (ss : List Addr) (H : Hp) (T : Tb) : Prop := Paired (fun s c => SA C ss H c s) ss T
theorem TA.keep {C : KC} {ss : List Addr} {H H1 : Hp} {T : Tb} (h : TA C ss H T) (o : Stb H H1) : TA C ss H1 T := Paired.mapP h fun s c h => h.keep o
theorem TA.same {C : KC} {ss : List Addr} {H H1 : Hp} {T : Tb} (h : TA C ss H T) (s : Same H H1) : TA C ss H1 T := h.keep (.of s)
theorem KA.same {C : KC} {ss : List Addr} {H H1 : Hp} {k : Kd} {a : Addr} (h : KA C ss H k a) (s : Same H H1) : KA C ss H1 k a := h.keep (.of s)
theorem TA.snoc {C : KC} {ss : List Addr} {H : Hp} {T : Tb} {s : Addr} {c : List Nat × Fl} (h : TA C ss H T) (hs : SA C ss H c s) : TA C (ss ++ [s]) H (T ++ [c]) := psnoc (Paired.mapP h fun s c h => h.ext) hs.ext
theorem TA.shape {C : KC} {ss : List Addr} {H : Hp} {T : Tb} (h : TA C ss H T) {i : Nat} {s : Addr} (hs : ss[i]? = some s) : ∃ dx t ys, H s = some (.ins C.sh dx [("name", .str (SX.S (nameT T i))), ("fields", .ref t)]) ∧ H t = some (.tup ys) ∧ FA C ss H ys (flds T i) ∧ i < T.length := by
  obtain ⟨c, hc, dx, t, ys, h1, h2, h3⟩ := pget h hs
  exact ⟨dx, t, ys, by rw [name_at hc]; exact h1, h2, by rw [flds_at hc]; exact h3, (List.getElem?_eq_some_iff.mp hc).1⟩
def isNumK : Kd → Bool
  | .num _ => true
  | _ => false
def isShpK : Kd → Bool
  | .shp _ => true
  | _ => false
def isRowK : Kd → Bool
  | .row _ _ => true
  | _ => false
def isPickK : Kd → Bool
  | .pick _ => true
  | _ => false
/-- the method m of a kind, by its class -/
theorem KA.disp {C : KC} {ss : List Addr} {H : Hp} {k : Kd} {a : Addr} {m : Str} (G : (Kd → Bool) → Sp) (h : KA C ss H k a) (n1 : (m == Str.ofString "width") = false) (n2 : (m == Str.ofString "shape") = false) (n3 : (m == Str.ofString "count") = false) (n4 : (m == Str.ofString "kind") = false) (n5 : (m == Str.ofString "shapes") = false) :
    ∃ c dx fs p, H a = some (.ins c dx fs) ∧ fs.lookup m = none ∧ (c, G p) ∈ [(C.nu, G isNumK), (C.ne, G isShpK), (C.ma, G isRowK), (C.pi, G isPickK)] ∧ p k = true := by
  cases k with
  | num _ => obtain ⟨dx, h⟩ := h; exact ⟨_, dx, _, isNumK, h, lk1 n1 rfl, .head _, rfl⟩
  | shp _ => obtain ⟨dx, s, _, h⟩ := h; exact ⟨_, dx, _, isShpK, h, lk1 n2 rfl, .tail _ (.head _), rfl⟩
  | row _ _ => obtain ⟨dx, b, h, _⟩ := h; exact ⟨_, dx, _, isRowK, h, lk1 n3 (lk1 n4 rfl), .tail _ (.tail _ (.head _)), rfl⟩
  | pick _ => obtain ⟨dx, t, ps, h, _⟩ := h; exact ⟨_, dx, _, isPickK, h, lk1 n5 rfl, .tail _ (.tail _ (.tail _ (.head _))), rfl⟩
theorem lkw {x : V} : List.lookup (Str.ofString "width") ([(Str.ofString "width", x)] : List (Str × V)) = some x := lk0
theorem lks {x : V} : List.lookup (Str.ofString "shape") ([(Str.ofString "shape", x)] : List (Str × V)) = some x := lk0
theorem lkc {x y : V} : List.lookup (Str.ofString "count") ([(Str.ofString "count", x), (Str.ofString "kind", y)] : List (Str × V)) = some x := lk0
theorem lkk {x y : V} : List.lookup (Str.ofString "kind") ([(Str.ofString "count", x), (Str.ofString "kind", y)] : List (Str × V)) = some y := lk1 (by decide +kernel) lk0
theorem lkp {x : V} : List.lookup (Str.ofString "shapes") ([(Str.ofString "shapes", x)] : List (Str × V)) = some x := lk0
theorem lkn {x y : V} : List.lookup (Str.ofString "name") ([(Str.ofString "name", x), (Str.ofString "fields", y)] : List (Str × V)) = some x := lk0
theorem lkf {x y : V} : List.lookup (Str.ofString "fields") ([(Str.ofString "name", x), (Str.ofString "fields", y)] : List (Str × V)) = some y := lk1 (by decide +kernel) lk0
theorem lkno {x y : V} {m : Str} (h1 : (m == Str.ofString "name") = false) (h2 : (m == Str.ofString "fields") = false) : List.lookup m ([(Str.ofString "name", x), (Str.ofString "fields", y)] : List (Str × V)) = none := lk1 h1 (lk1 h2 rfl)
theorem lkno1 {x : V} {m f : Str} (h1 : (m == f) = false) : List.lookup m ([(f, x)] : List (Str × V)) = none := lk1 h1 rfl
/-- a method of the four kinds -/
structure MethF (K : PySem.W.Frag) (C : Addr) (m : Str) (f : Addr) (fd : FuncData) (ps : List Str) : Prop where
  cl : Cls K C
  mt : Meth K C m f
  b : Binds K fd ps []
theorem MethF.nn {P : Program} {w : World} {K : PySem.W.Frag} {mg : Str → Option Value} {base : Heap} {CX : CXT} {n : Nat} {C f : Addr} {fd : FuncData} {m : Str} {ps : List Str} {sp : Sp} (W : MethF K C m f fd ps) (F : FnOk P w K mg base CX n f fd ps sp) : Nn P w K mg base CX n C m ps sp := ⟨W.cl, ⟨f, fd, W.mt, F, W.b⟩⟩
def spKS (C : KC) (n : Nat) (p : Kd → Bool) : Sp := fun vs H Q _ => ∃ (a : Addr) (k : Kd) (T : Tb) (ss : List Addr), vs = [.ref a] ∧ KA C ss H k a ∧ TA C ss H T ∧ Rk T n k ∧ p k = true ∧ ∀ H1, Same H H1 → Q (.int (sizeK T n k)) H1
def spSS (C : KC) (n : Nat) : Sp := fun vs H Q _ => ∃ (s : Addr) (i : Nat) (T : Tb) (ss : List Addr), vs = [.ref s] ∧ ss[i]? = some s ∧ TA C ss H T ∧ Rk T n (.shp i) ∧ ∀ H1, Same H H1 → Q (.int (sizeK T n (.shp i))) H1
/-- of a pick alone: without its tag -/
def spCS (C : KC) (n : Nat) : Sp := fun vs H Q _ => ∃ (a : Addr) (is : List Nat) (T : Tb) (ss : List Addr), vs = [.ref a] ∧ KA C ss H (.pick is) a ∧ TA C ss H T ∧ Rk T n (.pick is) ∧ ∀ H1, Same H H1 → Q (.int (sizeK T n (.pick is) - 1)) H1
section
variable {P : Program} {w : World} {K : PySem.W.Frag} {mg : Str → Option Value} {base : Heap}
theorem psize_all {f_num f_ne f_ma f_pi f_ch f_sh C_Num C_Nested C_Many C_Pick C_Shape : Addr} {fd_num fd_ne fd_ma fd_pi fd_ch fd_sh : FuncData}
    (F1 : Fun K "size" "Num.size" s_Num_size f_num fd_num) (F2 : Fun K "size" "Nested.size" s_Nested_size f_ne fd_ne) (F3 : Fun K "size" "Many.size" s_Many_size f_ma fd_ma) (F4 : Fun K "size" "Pick.size" s_Pick_size f_pi fd_pi) (F5 : Fun K "chosen_size" "Pick.chosen_size" s_Pick_chosen_size f_ch fd_ch) (F6 : Fun K "size" "Shape.size" s_Shape_size f_sh fd_sh)
    (W1 : MethF K C_Num "size" f_num fd_num ["self"]) (W2 : MethF K C_Nested "size" f_ne fd_ne ["self"]) (W3 : MethF K C_Many "size" f_ma fd_ma ["self"]) (W4 : MethF K C_Pick "size" f_pi fd_pi ["self"]) (W5 : MethF K C_Pick "chosen_size" f_ch fd_ch ["self"]) (W6 : MethF K C_Shape "size" f_sh fd_sh ["self"])
    (A_Num_width : NoAttr K C_Num "width") (A_Nested_shape : NoAttr K C_Nested "shape") (A_Many_count : NoAttr K C_Many "count") (A_Many_kind : NoAttr K C_Many "kind") (A_Pick_shapes : NoAttr K C_Pick "shapes") (A_Shape_fields : NoAttr K C_Shape "fields") (z_max : mg "max" = none) (z_sum : mg "sum" = none) :
    ∀ n, FnOk P w K mg base CX0 (4 * n + 3) f_num fd_num ["self"] (spKS ⟨C_Num, C_Nested, C_Many, C_Pick, C_Shape⟩ n isNumK) ∧ FnOk P w K mg base CX0 (4 * n + 3) f_ne fd_ne ["self"] (spKS ⟨C_Num, C_Nested, C_Many, C_Pick, C_Shape⟩ n isShpK) ∧ FnOk P w K mg base CX0 (4 * n + 3) f_ma fd_ma ["self"] (spKS ⟨C_Num, C_Nested, C_Many, C_Pick, C_Shape⟩ n isRowK) ∧ FnOk P w K mg base CX0 (4 * n + 3) f_pi fd_pi ["self"] (spKS ⟨C_Num, C_Nested, C_Many, C_Pick, C_Shape⟩ n isPickK) ∧
      FnOk P w K mg base CX0 (4 * n + 2) f_ch fd_ch ["self"] (spCS ⟨C_Num, C_Nested, C_Many, C_Pick, C_Shape⟩ n) ∧ FnOk P w K mg base CX0 (4 * n + 1) f_sh fd_sh ["self"] (spSS ⟨C_Num, C_Nested, C_Many, C_Pick, C_Shape⟩ n)
  | 0 => by
    refine ⟨?_, ?_, ?_, ?_, ?_, ?_⟩
    · refine F1.ok sc_Num_size (fun vs H Q E h => ?_) (fun cdv A outer s H vs Q E hr h => ?_) <;> obtain ⟨a, k, T, ss, rfl, _, _, h, _⟩ := h <;> exact h.elim
    · refine F2.ok sc_Nested_size (fun vs H Q E h => ?_) (fun cdv A outer s H vs Q E hr h => ?_) <;> obtain ⟨a, k, T, ss, rfl, _, _, h, _⟩ := h <;> exact h.elim
    · refine F3.ok sc_Many_size (fun vs H Q E h => ?_) (fun cdv A outer s H vs Q E hr h => ?_) <;> obtain ⟨a, k, T, ss, rfl, _, _, h, _⟩ := h <;> exact h.elim
    · refine F4.ok sc_Pick_size (fun vs H Q E h => ?_) (fun cdv A outer s H vs Q E hr h => ?_) <;> obtain ⟨a, k, T, ss, rfl, _, _, h, _⟩ := h <;> exact h.elim
    · refine F5.ok sc_Pick_chosen_size (fun vs H Q E h => ?_) (fun cdv A outer s H vs Q E hr h => ?_) <;> obtain ⟨a, k, T, ss, rfl, _, _, h, _⟩ := h <;> exact h.elim
    · refine F6.ok sc_Shape_size (fun vs H Q E h => ?_) (fun cdv A outer s H vs Q E hr h => ?_) <;> obtain ⟨a, k, T, ss, rfl, _, _, h, _⟩ := h <;> exact h.elim
  | n + 1 => by
    obtain ⟨i1, i2, i3, i4, i5, i6⟩ := psize_all F1 F2 F3 F4 F5 F6 W1 W2 W3 W4 W5 W6 A_Num_width A_Nested_shape A_Many_count A_Many_kind A_Pick_shapes A_Shape_fields z_max z_sum n
    have N_Num_size := W1.nn i1
    have N_Nested_size := W2.nn i2
    have N_Many_size := W3.nn i3
    have N_Pick_size := W4.nn i4
    have K_Num := W1.cl
    have K_Nested := W2.cl
    have K_Many := W3.cl
    have K_Pick := W4.cl
    have K_Shape := W6.cl
    have virt : ∀ {H : Hp} {k : Kd} {a : Addr} {T : Tb} {ss : List Addr} {Q : VK} {E : XK}, KA ⟨C_Num, C_Nested, C_Many, C_Pick, C_Shape⟩ ss H k a → TA ⟨C_Num, C_Nested, C_Many, C_Pick, C_Shape⟩ ss H T → Rk T n k → (∀ H1, Same H H1 → Q (.int (sizeK T n k)) H1) →
        ∃ c dx fs, H a = some (.ins c dx fs) ∧ fs.lookup (Str.ofString "size") = none ∧ ∃ sp, (c, sp) ∈ [(C_Num, spKS ⟨C_Num, C_Nested, C_Many, C_Pick, C_Shape⟩ n isNumK), (C_Nested, spKS ⟨C_Num, C_Nested, C_Many, C_Pick, C_Shape⟩ n isShpK), (C_Many, spKS ⟨C_Num, C_Nested, C_Many, C_Pick, C_Shape⟩ n isRowK), (C_Pick, spKS ⟨C_Num, C_Nested, C_Many, C_Pick, C_Shape⟩ n isPickK)] ∧ sp [.ref a] H Q E := fun hk ht rk q => by
      obtain ⟨c, dx, fs, p, h1, h2, h3, h4⟩ := hk.disp (m := "size") (spKS ⟨C_Num, C_Nested, C_Many, C_Pick, C_Shape⟩ n) (by decide +kernel) (by decide +kernel) (by decide +kernel) (by decide +kernel) (by decide +kernel)
      exact ⟨c, dx, fs, h1, h2, _, h3, _, _, _, _, rfl, hk, ht, rk, h4, q⟩
    have R6 : FnOk P w K mg base CX0 (4 * (n + 1) + 1) f_sh fd_sh ["self"] (spSS ⟨C_Num, C_Nested, C_Many, C_Pick, C_Shape⟩ (n + 1)) := by
      refine F6.ok sc_Shape_size (fun vs H Q E h => ?_) (fun cdv A outer s H vs Q E hr h => ?_)
      · obtain ⟨a, k, T, ss, rfl, _⟩ := h
        rfl
      · obtain ⟨s, i, T, ss, rfl, hs, ht, hrk, q⟩ := h
        refine ⟨_, (pss_one (ps_ret (pe_callB (cr_sumK rfl (K := K)) (by rfl) z_sum (by decide +kernel) (pa_cons (pe_lc (own := [("name", 1), ("kind", 2)]) (g := gTup K 2 (gCons (gName 1) (gCons (gName 2) (gNil)))) (tt := tYes) rfl sc_Shape_size.nd (pi_tupK (pe_fldK (pv 0) rfl (K := K)) (K := K)) (blkOk_by (own := [("name", 1), ("kind", 2)]) (N := ["self", "name", "kind"]) (sc := defScope s_Shape_size) (by decide +kernel)) (fun _ _ _ _ _ => (pg_tupK (K := K) rfl (pgs_cons (pg_name (i := 1) sc_Shape_size.nd rfl (Or.inl rfl)) (pgs_cons (pg_name (i := 2) sc_Shape_size.nd rfl (Or.inl rfl)) pgs_nil)))) (fun _ _ _ _ _ => pts_nil) (fun _ _ _ _ _ => (pe_mdV0 (pv 2) (.cons N_Num_size (.cons N_Nested_size (.cons N_Many_size (.cons N_Pick_size .nil)))) (hr.mono (by first | decide | omega)) pass0))) pa_nil)))), ?_⟩
        walk_at "rd"
        obtain ⟨dx, t, ys, h1, h2, h3, hi⟩ := ht.shape hs
        have hlen := Paired.length h3
        refine ⟨_, _, _, h1, K_Shape, A_Shape_fields, _, lkf, t, rfl, ⟨_, seqT_of h2⟩, ?_⟩
        refine Cmp.pureDT (flds T i) (fun p => V.int (sizeK T n p.2)) (seqT_of h2) hlen (by have := hrk.2.2.1; omega) (fun j x d H2 R hx hd s2 r => ?_) (fun l2 H2 n2 s2 g2 => ?_)
        · obtain ⟨d', hd', e, c, rfl, he, hc⟩ := pget h3 hx
          rw [hd] at hd'
          obtain rfl := Option.some.inj hd'
          refine two_at (s2 _ _ he) ⟨rfl, ?_⟩
          walk_at "rd"
          exact virt (hc.same s2) (ht.same s2) (hrk.2.2.2.2 d (List.mem_of_getElem? hd)).2.2 fun H4 s4 => r H4 s4
        · exact ⟨l2, rfl, (flds T i).map (fun p : List Nat × Kd => sizeK T n p.2), by rw [List.map_map]; exact seq_of g2, q H2 s2⟩
    have N_Shape_size := W6.nn R6
    have N_Shape_size0 := W6.nn i6
    have R5 : FnOk P w K mg base CX0 (4 * (n + 1) + 2) f_ch fd_ch ["self"] (spCS ⟨C_Num, C_Nested, C_Many, C_Pick, C_Shape⟩ (n + 1)) := by
      have N_Shape_size := N_Shape_size0
      refine F5.ok sc_Pick_chosen_size (fun vs H Q E h => ?_) (fun cdv A outer s H vs Q E hr h => ?_)
      · obtain ⟨a, is, T, ss, rfl, _⟩ := h
        rfl
      · obtain ⟨a, is, T, ss, rfl, hk, ht, hrk, q⟩ := h
        refine ⟨_, (pss_one (ps_ret (pe_callB (cr_maxK rfl (K := K)) (by rfl) z_max (by decide +kernel) (pa_cons (pe_lc (own := [("shape", 1)]) (g := gName 1) (tt := tYes) rfl sc_Pick_chosen_size.nd (pi_tupK (pe_fldK (pv 0) rfl (K := K)) (K := K)) (blkOk_by (own := [("shape", 1)]) (N := ["self", "shape"]) (sc := defScope s_Pick_chosen_size) (by decide +kernel)) (fun _ _ _ _ _ => pg_name (i := 1) sc_Pick_chosen_size.nd rfl (Or.inl rfl)) (fun _ _ _ _ _ => pts_nil) (fun _ _ _ _ _ => (pe_md0 (pv 1) N_Shape_size (hr.mono (by first | decide | omega)) pass0))) pa_nil)))), ?_⟩
        walk_at "rd"
        obtain ⟨dx, t, ps, h1, h2, h3⟩ := hk
        have hlen := Paired.length h3
        refine ⟨_, _, _, h1, K_Pick, A_Pick_shapes, _, lkp, t, rfl, ⟨_, seqT_of h2⟩, ?_⟩
        refine Cmp.pureDT is (fun i => V.int (sizeK T n (.shp i))) (seqT_of h2) hlen (by have := hrk.2.1; omega) (fun j x d H2 R hx hd s2 r => ?_) (fun l2 H2 n2 s2 g2 => ?_)
        · obtain ⟨d', hd', s', hs', rfl⟩ := pget h3 hx
          rw [hd] at hd'
          obtain rfl := Option.some.inj hd'
          refine ⟨rfl, ?_⟩
          walk_at "rd"
          obtain ⟨dx2, t2, ys2, g1, _, _, _⟩ := ht.shape hs'
          exact ⟨_, _, s2 _ _ g1, lkno (by decide +kernel) (by decide +kernel), s', d, T, ss, rfl, hs', ht.same s2, hrk.2.2 d (List.mem_of_getElem? hd), fun H4 s4 => r H4 s4⟩
        · refine ⟨l2, rfl, is.map (fun i => sizeK T n (.shp i)), by rw [List.map_map]; exact seq_of g2, by rw [List.length_map]; exact List.length_pos_iff.mpr hrk.1, fun m hm hmax => ?_⟩
          rw [maxL_eq hm hmax fun x hx => by
            obtain ⟨i, _, rfl⟩ := List.mem_map.mp hx
            exact sizeK_nn T n _]
          have := q H2 s2
          rw [show sizeK T (n + 1) (.pick is) - 1 = maxL (is.map fun i => sizeK T n (.shp i)) from by show 1 + _ - 1 = _; omega] at this
          exact this
    have N_Pick_chosen_size := W5.nn R5
    refine ⟨?_, ?_, ?_, ?_, R5, R6⟩
    · refine F1.ok sc_Num_size (fun vs H Q E h => ?_) (fun cdv A outer s H vs Q E hr h => ?_)
      · obtain ⟨a, k, T, ss, rfl, _⟩ := h
        rfl
      · obtain ⟨a, k, T, ss, rfl, hk, ht, hrk, hp, q⟩ := h
        refine ⟨_, (pss_one (ps_ret (pe_fldK (pv 0) rfl (K := K)))), ?_⟩
        walk_at "rd"
        cases k with
        | num w =>
          obtain ⟨dx, h1⟩ := hk
          exact ⟨_, _, _, h1, K_Num, A_Num_width, _, lkw, q H (Same.refl H)⟩
        | _ => cases hp
    · refine F2.ok sc_Nested_size (fun vs H Q E h => ?_) (fun cdv A outer s H vs Q E hr h => ?_)
      · obtain ⟨a, k, T, ss, rfl, _⟩ := h
        rfl
      · obtain ⟨a, k, T, ss, rfl, hk, ht, hrk, hp, q⟩ := h
        refine ⟨_, (pss_one (ps_ret (pe_md0 (pe_fldK (pv 0) rfl (K := K)) N_Shape_size (hr.mono (by first | decide | omega)) pass0))), ?_⟩
        walk_at "rd"
        cases k with
        | shp i =>
          obtain ⟨dx, s', hs', h1⟩ := hk
          obtain ⟨dx2, t2, ys2, g1, _, _, _⟩ := ht.shape hs'
          exact ⟨_, _, _, h1, K_Nested, A_Nested_shape, _, lks, s', rfl, _, _, g1, lkno (by decide +kernel) (by decide +kernel), s', i, T, ss, rfl, hs', ht, hrk, q⟩
        | _ => cases hp
    · refine F3.ok sc_Many_size (fun vs H Q E h => ?_) (fun cdv A outer s H vs Q E hr h => ?_)
      · obtain ⟨a, k, T, ss, rfl, _⟩ := h
        rfl
      · obtain ⟨a, k, T, ss, rfl, hk, ht, hrk, hp, q⟩ := h
        refine ⟨_, (pss_one (ps_ret (pe_op op_mul (pe_fldK (pv 0) rfl (K := K)) (pe_mdV0 (pe_fldK (pv 0) rfl (K := K)) (.cons N_Num_size (.cons N_Nested_size (.cons N_Many_size (.cons N_Pick_size .nil)))) (hr.mono (by first | decide | omega)) pass0)))), ?_⟩
        walk_at "rd"
        cases k with
        | row m k =>
          obtain ⟨dx, b, h1, h2⟩ := hk
          have hm := hrk.1
          refine ⟨_, _, _, h1, K_Many, A_Many_count, _, lkc, _, _, _, h1, K_Many, A_Many_kind, _, lkk, b, rfl, virt h2 ht hrk.2 fun H1 s1 => ⟨_, rfl, _, rfl, .inl ⟨by omega, by omega⟩, q H1 s1⟩⟩
        | _ => cases hp
    · refine F4.ok sc_Pick_size (fun vs H Q E h => ?_) (fun cdv A outer s H vs Q E hr h => ?_)
      · obtain ⟨a, k, T, ss, rfl, _⟩ := h
        rfl
      · obtain ⟨a, k, T, ss, rfl, hk, ht, hrk, hp, q⟩ := h
        refine ⟨_, (pss_one (ps_ret (pe_op op_add pe_int (pe_md0 (pv 0) N_Pick_chosen_size (hr.mono (by first | decide | omega)) pass0)))), ?_⟩
        walk_at "rd"
        cases k with
        | pick is =>
          have hk' := hk
          obtain ⟨dx, t, ps, h1, h2, h3⟩ := hk
          refine ⟨_, _, h1, lkno1 (by decide +kernel), a, is, T, ss, rfl, hk', ht, hrk, fun H1 s1 => ⟨_, rfl, ?_⟩⟩
          have := q H1 s1
          rw [show 1 + (sizeK T (n + 1) (.pick is) - 1) = sizeK T (n + 1) (.pick is) by omega]
          exact this
        | _ => cases hp
end

/-! ### depth, units of the objects -/
def spKD (C : KC) (n : Nat) (p : Kd → Bool) : Sp := fun vs H Q _ => ∃ (a : Addr) (k : Kd) (T : Tb) (ss : List Addr), vs = [.ref a] ∧ KA C ss H k a ∧ TA C ss H T ∧ Rk T n k ∧ p k = true ∧ ∀ H1, Same H H1 → Q (.int (depthK T n k)) H1
def spSD (C : KC) (n : Nat) : Sp := fun vs H Q _ => ∃ (s : Addr) (i : Nat) (T : Tb) (ss : List Addr), vs = [.ref s] ∧ ss[i]? = some s ∧ TA C ss H T ∧ Rk T n (.shp i) ∧ ∀ H1, Same H H1 → Q (.int (depthK T n (.shp i))) H1
def spKU (K : PySem.W.Frag) (C : KC) (n : Nat) (p : Kd → Bool) : Sp := fun vs H Q _ => ∃ (a : Addr) (k : Kd) (T : Tb) (ss : List Addr) (pa : List Nat), vs = [.ref a, .str (S pa)] ∧ KA C ss H k a ∧ TA C ss H T ∧ Rk T n k ∧ p k = true ∧ n ≤ 24 ∧ pa.length + 20 * n ≤ 1000 ∧ (unitsK T n k pa).length ≤ 100000 ∧ ∀ l H1, H l = none → Same H H1 → UnL K H1 l (unitsK T n k pa) → Q (.ref l) H1
section
variable {P : Program} {w : World} {K : PySem.W.Frag} {mg : Str → Option Value} {base : Heap}
theorem pdepth_all {f_num f_ne f_ma f_pi f_sh C_Num C_Nested C_Many C_Pick C_Shape : Addr} {fd_num fd_ne fd_ma fd_pi fd_sh : FuncData}
    (F1 : Fun K "depth" "Kind.depth" s_Kind_depth f_num fd_num) (F2 : Fun K "depth" "Nested.depth" s_Nested_depth f_ne fd_ne) (F3 : Fun K "depth" "Many.depth" s_Many_depth f_ma fd_ma) (F4 : Fun K "depth" "Pick.depth" s_Pick_depth f_pi fd_pi) (F6 : Fun K "depth" "Shape.depth" s_Shape_depth f_sh fd_sh)
    (W1 : MethF K C_Num "depth" f_num fd_num ["self"]) (W2 : MethF K C_Nested "depth" f_ne fd_ne ["self"]) (W3 : MethF K C_Many "depth" f_ma fd_ma ["self"]) (W4 : MethF K C_Pick "depth" f_pi fd_pi ["self"]) (W6 : MethF K C_Shape "depth" f_sh fd_sh ["self"])
    (A_Nested_shape : NoAttr K C_Nested "shape") (A_Many_kind : NoAttr K C_Many "kind") (A_Pick_shapes : NoAttr K C_Pick "shapes") (A_Shape_fields : NoAttr K C_Shape "fields") (z_max : mg "max" = none) :
    ∀ n, FnOk P w K mg base CX0 (4 * n + 3) f_num fd_num ["self"] (spKD ⟨C_Num, C_Nested, C_Many, C_Pick, C_Shape⟩ n isNumK) ∧ FnOk P w K mg base CX0 (4 * n + 3) f_ne fd_ne ["self"] (spKD ⟨C_Num, C_Nested, C_Many, C_Pick, C_Shape⟩ n isShpK) ∧ FnOk P w K mg base CX0 (4 * n + 3) f_ma fd_ma ["self"] (spKD ⟨C_Num, C_Nested, C_Many, C_Pick, C_Shape⟩ n isRowK) ∧ FnOk P w K mg base CX0 (4 * n + 3) f_pi fd_pi ["self"] (spKD ⟨C_Num, C_Nested, C_Many, C_Pick, C_Shape⟩ n isPickK) ∧
      FnOk P w K mg base CX0 (4 * n + 1) f_sh fd_sh ["self"] (spSD ⟨C_Num, C_Nested, C_Many, C_Pick, C_Shape⟩ n)
  | 0 => by
    refine ⟨?_, ?_, ?_, ?_, ?_⟩
    · refine F1.ok sc_Kind_depth (fun vs H Q E h => ?_) (fun cdv A outer s H vs Q E hr h => ?_) <;> obtain ⟨a, k, T, ss, rfl, _, _, h, _⟩ := h <;> exact h.elim
    · refine F2.ok sc_Nested_depth (fun vs H Q E h => ?_) (fun cdv A outer s H vs Q E hr h => ?_) <;> obtain ⟨a, k, T, ss, rfl, _, _, h, _⟩ := h <;> exact h.elim
    · refine F3.ok sc_Many_depth (fun vs H Q E h => ?_) (fun cdv A outer s H vs Q E hr h => ?_) <;> obtain ⟨a, k, T, ss, rfl, _, _, h, _⟩ := h <;> exact h.elim
    · refine F4.ok sc_Pick_depth (fun vs H Q E h => ?_) (fun cdv A outer s H vs Q E hr h => ?_) <;> obtain ⟨a, k, T, ss, rfl, _, _, h, _⟩ := h <;> exact h.elim
    · refine F6.ok sc_Shape_depth (fun vs H Q E h => ?_) (fun cdv A outer s H vs Q E hr h => ?_) <;> obtain ⟨a, k, T, ss, rfl, _, _, h, _⟩ := h <;> exact h.elim
  | n + 1 => by
    obtain ⟨i1, i2, i3, i4, i6⟩ := pdepth_all F1 F2 F3 F4 F6 W1 W2 W3 W4 W6 A_Nested_shape A_Many_kind A_Pick_shapes A_Shape_fields z_max n
    have N_Num_depth := W1.nn i1
    have N_Nested_depth := W2.nn i2
    have N_Many_depth := W3.nn i3
    have N_Pick_depth := W4.nn i4
    have K_Nested := W2.cl
    have K_Many := W3.cl
    have K_Pick := W4.cl
    have K_Shape := W6.cl
    have virt : ∀ {H : Hp} {k : Kd} {a : Addr} {T : Tb} {ss : List Addr} {Q : VK} {E : XK}, KA ⟨C_Num, C_Nested, C_Many, C_Pick, C_Shape⟩ ss H k a → TA ⟨C_Num, C_Nested, C_Many, C_Pick, C_Shape⟩ ss H T → Rk T n k → (∀ H1, Same H H1 → Q (.int (depthK T n k)) H1) →
        ∃ c dx fs, H a = some (.ins c dx fs) ∧ fs.lookup (Str.ofString "depth") = none ∧ ∃ sp, (c, sp) ∈ [(C_Num, spKD ⟨C_Num, C_Nested, C_Many, C_Pick, C_Shape⟩ n isNumK), (C_Nested, spKD ⟨C_Num, C_Nested, C_Many, C_Pick, C_Shape⟩ n isShpK), (C_Many, spKD ⟨C_Num, C_Nested, C_Many, C_Pick, C_Shape⟩ n isRowK), (C_Pick, spKD ⟨C_Num, C_Nested, C_Many, C_Pick, C_Shape⟩ n isPickK)] ∧ sp [.ref a] H Q E := fun hk ht rk q => by
      obtain ⟨c, dx, fs, p, h1, h2, h3, h4⟩ := hk.disp (m := "depth") (spKD ⟨C_Num, C_Nested, C_Many, C_Pick, C_Shape⟩ n) (by decide +kernel) (by decide +kernel) (by decide +kernel) (by decide +kernel) (by decide +kernel)
      exact ⟨c, dx, fs, h1, h2, _, h3, _, _, _, _, rfl, hk, ht, rk, h4, q⟩
    have R6 : FnOk P w K mg base CX0 (4 * (n + 1) + 1) f_sh fd_sh ["self"] (spSD ⟨C_Num, C_Nested, C_Many, C_Pick, C_Shape⟩ (n + 1)) := by
      refine F6.ok sc_Shape_depth (fun vs H Q E h => ?_) (fun cdv A outer s H vs Q E hr h => ?_)
      · obtain ⟨a, k, T, ss, rfl, _⟩ := h
        rfl
      · obtain ⟨s, i, T, ss, rfl, hs, ht, hrk, q⟩ := h
        refine ⟨_, (pss_one (ps_ret (pe_op op_add pe_int (pe_callB (cr_maxK rfl (K := K)) (by rfl) z_max (by decide +kernel) (pa_cons (pe_lc (own := [("name", 1), ("kind", 2)]) (g := gTup K 2 (gCons (gName 1) (gCons (gName 2) (gNil)))) (tt := tYes) rfl sc_Shape_depth.nd (pi_tupK (pe_fldK (pv 0) rfl (K := K)) (K := K)) (blkOk_by (own := [("name", 1), ("kind", 2)]) (N := ["self", "name", "kind"]) (sc := defScope s_Shape_depth) (by decide +kernel)) (fun _ _ _ _ _ => (pg_tupK (K := K) rfl (pgs_cons (pg_name (i := 1) sc_Shape_depth.nd rfl (Or.inl rfl)) (pgs_cons (pg_name (i := 2) sc_Shape_depth.nd rfl (Or.inl rfl)) pgs_nil)))) (fun _ _ _ _ _ => pts_nil) (fun _ _ _ _ _ => (pe_mdV0 (pv 2) (.cons N_Num_depth (.cons N_Nested_depth (.cons N_Many_depth (.cons N_Pick_depth .nil)))) (hr.mono (by first | decide | omega)) pass0))) pa_nil))))), ?_⟩
        walk_at "rd"
        obtain ⟨dx, t, ys, h1, h2, h3, hi⟩ := ht.shape hs
        have hlen := Paired.length h3
        refine ⟨_, _, _, h1, K_Shape, A_Shape_fields, _, lkf, t, rfl, ⟨_, seqT_of h2⟩, ?_⟩
        refine Cmp.pureDT (flds T i) (fun p => V.int (depthK T n p.2)) (seqT_of h2) hlen (by have := hrk.2.2.1; omega) (fun j x d H2 R hx hd s2 r => ?_) (fun l2 H2 n2 s2 g2 => ?_)
        · obtain ⟨d', hd', e, c, rfl, he, hc⟩ := pget h3 hx
          rw [hd] at hd'
          obtain rfl := Option.some.inj hd'
          refine two_at (s2 _ _ he) ⟨rfl, ?_⟩
          walk_at "rd"
          exact virt (hc.same s2) (ht.same s2) (hrk.2.2.2.2 d (List.mem_of_getElem? hd)).2.2 fun H4 s4 => r H4 s4
        · refine ⟨l2, rfl, (flds T i).map (fun p => depthK T n p.2), by rw [List.map_map]; exact seq_of g2, by rw [List.length_map]; exact List.length_pos_iff.mpr hrk.2.2.2.1, fun m hm hmax => ?_⟩
          rw [maxL_eq hm hmax fun x hx => by
            obtain ⟨i, _, rfl⟩ := List.mem_map.mp hx
            exact depthK_nn T n _]
          exact q H2 s2
    have N_Shape_depth := W6.nn R6
    have N_Shape_depth0 := W6.nn i6
    refine ⟨?_, ?_, ?_, ?_, R6⟩
    · refine F1.ok sc_Kind_depth (fun vs H Q E h => ?_) (fun cdv A outer s H vs Q E hr h => ?_)
      · obtain ⟨a, k, T, ss, rfl, _⟩ := h
        rfl
      · obtain ⟨a, k, T, ss, rfl, hk, ht, hrk, hp, q⟩ := h
        refine ⟨_, (pss_one (ps_ret pe_int)), ?_⟩
        walk_at "rd"
        cases k with
        | num w => exact q H (Same.refl H)
        | _ => cases hp
    · refine F2.ok sc_Nested_depth (fun vs H Q E h => ?_) (fun cdv A outer s H vs Q E hr h => ?_)
      · obtain ⟨a, k, T, ss, rfl, _⟩ := h
        rfl
      · obtain ⟨a, k, T, ss, rfl, hk, ht, hrk, hp, q⟩ := h
        refine ⟨_, (pss_one (ps_ret (pe_md0 (pe_fldK (pv 0) rfl (K := K)) N_Shape_depth (hr.mono (by first | decide | omega)) pass0))), ?_⟩
        walk_at "rd"
        cases k with
        | shp i =>
          obtain ⟨dx, s', hs', h1⟩ := hk
          obtain ⟨dx2, t2, ys2, g1, _, _, _⟩ := ht.shape hs'
          exact ⟨_, _, _, h1, K_Nested, A_Nested_shape, _, lks, s', rfl, _, _, g1, lkno (by decide +kernel) (by decide +kernel), s', i, T, ss, rfl, hs', ht, hrk, q⟩
        | _ => cases hp
    · refine F3.ok sc_Many_depth (fun vs H Q E h => ?_) (fun cdv A outer s H vs Q E hr h => ?_)
      · obtain ⟨a, k, T, ss, rfl, _⟩ := h
        rfl
      · obtain ⟨a, k, T, ss, rfl, hk, ht, hrk, hp, q⟩ := h
        refine ⟨_, (pss_one (ps_ret (pe_mdV0 (pe_fldK (pv 0) rfl (K := K)) (.cons N_Num_depth (.cons N_Nested_depth (.cons N_Many_depth (.cons N_Pick_depth .nil)))) (hr.mono (by first | decide | omega)) pass0))), ?_⟩
        walk_at "rd"
        cases k with
        | row m k =>
          obtain ⟨dx, b, h1, h2⟩ := hk
          exact ⟨_, _, _, h1, K_Many, A_Many_kind, _, lkk, b, rfl, virt h2 ht hrk.2 fun H1 s1 => q H1 s1⟩
        | _ => cases hp
    · have N_Shape_depth := N_Shape_depth0
      refine F4.ok sc_Pick_depth (fun vs H Q E h => ?_) (fun cdv A outer s H vs Q E hr h => ?_)
      · obtain ⟨a, k, T, ss, rfl, _⟩ := h
        rfl
      · obtain ⟨a, k, T, ss, rfl, hk, ht, hrk, hp, q⟩ := h
        refine ⟨_, (pss_one (ps_ret (pe_callB (cr_maxK rfl (K := K)) (by rfl) z_max (by decide +kernel) (pa_cons (pe_lc (own := [("shape", 1)]) (g := gName 1) (tt := tYes) rfl sc_Pick_depth.nd (pi_tupK (pe_fldK (pv 0) rfl (K := K)) (K := K)) (blkOk_by (own := [("shape", 1)]) (N := ["self", "shape"]) (sc := defScope s_Pick_depth) (by decide +kernel)) (fun _ _ _ _ _ => pg_name (i := 1) sc_Pick_depth.nd rfl (Or.inl rfl)) (fun _ _ _ _ _ => pts_nil) (fun _ _ _ _ _ => (pe_md0 (pv 1) N_Shape_depth (hr.mono (by first | decide | omega)) pass0))) pa_nil)))), ?_⟩
        walk_at "rd"
        cases k with
        | pick is =>
          obtain ⟨dx, t, ps, h1, h2, h3⟩ := hk
          have hlen := Paired.length h3
          refine ⟨_, _, _, h1, K_Pick, A_Pick_shapes, _, lkp, t, rfl, ⟨_, seqT_of h2⟩, ?_⟩
          refine Cmp.pureDT is (fun i => V.int (depthK T n (.shp i))) (seqT_of h2) hlen (by have := hrk.2.1; omega) (fun j x d H2 R hx hd s2 r => ?_) (fun l2 H2 n2 s2 g2 => ?_)
          · obtain ⟨d', hd', s', hs', rfl⟩ := pget h3 hx
            rw [hd] at hd'
            obtain rfl := Option.some.inj hd'
            refine ⟨rfl, ?_⟩
            walk_at "rd"
            obtain ⟨dx2, t2, ys2, g1, _, _, _⟩ := ht.shape hs'
            exact ⟨_, _, s2 _ _ g1, lkno (by decide +kernel) (by decide +kernel), s', d, T, ss, rfl, hs', ht.same s2, hrk.2.2 d (List.mem_of_getElem? hd), fun H4 s4 => r H4 s4⟩
          · refine ⟨l2, rfl, is.map (fun i => depthK T n (.shp i)), by rw [List.map_map]; exact seq_of g2, by rw [List.length_map]; exact List.length_pos_iff.mpr hrk.1, fun m hm hmax => ?_⟩
            rw [maxL_eq hm hmax fun x hx => by
              obtain ⟨i, _, rfl⟩ := List.mem_map.mp hx
              exact depthK_nn T n _]
            exact q H2 s2
        | _ => cases hp
theorem ok_pjoined {f : Addr} {fd : FuncData} (F : Fun K "joined" "joined" s_joined f fd) : FnOk P w K mg base CX0 1 f fd ["path", "step"] spJoined := by
  refine F.ok sc_joined (fun vs H Q E h => ?_) (fun cdv A outer s H vs Q E hr h => ?_)
  · obtain ⟨p, s, rfl, _⟩ := h
    rfl
  · obtain ⟨p, st, rfl, hs, hp, hl, q⟩ := h
    refine ⟨_, (pss_cons (ps_if (pt_cmpR op_eq (pv 0) pe_str (nomark _)) (pss_one (ps_ret (pv 1))) pss_nil)
      (pss_one (ps_ret (pe_op op_add_str (pe_op op_add_str (pv 0) pe_str) (pv 1))))), ?_⟩
    walk_at "rd"
    unfold joinedL at q
    by_cases g : p = []
    · subst g
      rw [if_pos rfl] at q
      refine iteP (by rw [e_nix]) q
    · rw [if_neg g] at q
      refine iteN (fun e => g (by rw [e_nix] at e; exact S_inj e)) ?_
      rw [e_dot, S_cat, S_cat, S_len, S_len, S_len, S_len, sizeLine_eq]
      exact ⟨by simp; omega, by simp; omega, q⟩
theorem punits_all {f_num f_ne f_ma f_pi C_Num C_Nested C_Many C_Pick C_Shape : Addr} {fd_num fd_ne fd_ma fd_pi : FuncData}
    (F1 : Fun K "units" "Num.units" s_Num_units f_num fd_num) (F2 : Fun K "units" "Nested.units" s_Nested_units f_ne fd_ne) (F3 : Fun K "units" "Many.units" s_Many_units f_ma fd_ma) (F4 : Fun K "units" "Pick.units" s_Pick_units f_pi fd_pi)
    (W1 : MethF K C_Num "units" f_num fd_num ["self", "path"]) (W2 : MethF K C_Nested "units" f_ne fd_ne ["self", "path"]) (W3 : MethF K C_Many "units" f_ma fd_ma ["self", "path"]) (W4 : MethF K C_Pick "units" f_pi fd_pi ["self", "path"])
    (A_Num_width : NoAttr K C_Num "width") (A_Nested_shape : NoAttr K C_Nested "shape") (A_Many_count : NoAttr K C_Many "count") (A_Many_kind : NoAttr K C_Many "kind") (A_Shape_fields : NoAttr K C_Shape "fields") (z_range : mg "range" = none) (z_str : mg "str" = none) (D_joined : Dn P w K mg base CX0 1 "joined" ["path", "step"] spJoined) (N_Pick_chosen_size : Nn P w K mg base CX0 98 C_Pick "chosen_size" ["self"] (spCS ⟨C_Num, C_Nested, C_Many, C_Pick, C_Shape⟩ 24)) (K_Shape : Cls K C_Shape) :
    ∀ n, FnOk P w K mg base CX0 (n + 100) f_num fd_num ["self", "path"] (spKU K ⟨C_Num, C_Nested, C_Many, C_Pick, C_Shape⟩ n isNumK) ∧ FnOk P w K mg base CX0 (n + 100) f_ne fd_ne ["self", "path"] (spKU K ⟨C_Num, C_Nested, C_Many, C_Pick, C_Shape⟩ n isShpK) ∧ FnOk P w K mg base CX0 (n + 100) f_ma fd_ma ["self", "path"] (spKU K ⟨C_Num, C_Nested, C_Many, C_Pick, C_Shape⟩ n isRowK) ∧ FnOk P w K mg base CX0 (n + 100) f_pi fd_pi ["self", "path"] (spKU K ⟨C_Num, C_Nested, C_Many, C_Pick, C_Shape⟩ n isPickK)
  | 0 => by
    refine ⟨?_, ?_, ?_, ?_⟩
    · refine F1.ok sc_Num_units (fun vs H Q E h => ?_) (fun cdv A outer s H vs Q E hr h => ?_) <;> obtain ⟨a, k, T, ss, pa, rfl, _, _, h, _⟩ := h <;> exact h.elim
    · refine F2.ok sc_Nested_units (fun vs H Q E h => ?_) (fun cdv A outer s H vs Q E hr h => ?_) <;> obtain ⟨a, k, T, ss, pa, rfl, _, _, h, _⟩ := h <;> exact h.elim
    · refine F3.ok sc_Many_units (fun vs H Q E h => ?_) (fun cdv A outer s H vs Q E hr h => ?_) <;> obtain ⟨a, k, T, ss, pa, rfl, _, _, h, _⟩ := h <;> exact h.elim
    · refine F4.ok sc_Pick_units (fun vs H Q E h => ?_) (fun cdv A outer s H vs Q E hr h => ?_) <;> obtain ⟨a, k, T, ss, pa, rfl, _, _, h, _⟩ := h <;> exact h.elim
  | n + 1 => by
    obtain ⟨i1, i2, i3, i4⟩ := punits_all F1 F2 F3 F4 W1 W2 W3 W4 A_Num_width A_Nested_shape A_Many_count A_Many_kind A_Shape_fields z_range z_str D_joined N_Pick_chosen_size K_Shape n
    have N_Num_units := W1.nn i1
    have N_Nested_units := W2.nn i2
    have N_Many_units := W3.nn i3
    have N_Pick_units := W4.nn i4
    have K_Num := W1.cl
    have K_Nested := W2.cl
    have K_Many := W3.cl
    have K_Pick := W4.cl
    refine ⟨?_, ?_, ?_, ?_⟩
    · refine F1.ok sc_Num_units (fun vs H Q E h => ?_) (fun cdv A outer s H vs Q E hr h => ?_)
      · obtain ⟨a, k, T, ss, pa, rfl, _⟩ := h
        rfl
      · obtain ⟨a, k, T, ss, pa, rfl, hk, ht, hrk, hp, hn, hpa, hl, q⟩ := h
        refine ⟨_, (pss_one (ps_ret (pe_lst (pa_cons (pe_tup (pa_cons (pv 1) (pa_cons (pe_fldK (pv 0) rfl (K := K)) (pa_cons pe_str pa_nil)))) pa_nil)))), ?_⟩
        walk_at "rd"
        cases k with
        | num w =>
          obtain ⟨dx, h1⟩ := hk
          refine ⟨_, _, _, h1, K_Num, A_Num_width, _, lkw, by decide, New.intro fun u H1 n1 s1 g1 => ⟨by decide, New.intro fun l H2 n2 s2 g2 => ?_⟩⟩
          refine q l H2 (s1.free n2) (s1.trans s2) ⟨_, g2, .cons ⟨u, rfl, seqT_of ?_⟩ .nil⟩
          rw [s2 _ _ g1, e_num]
          rfl
        | _ => cases hp
    · refine F2.ok sc_Nested_units (fun vs H Q E h => ?_) (fun cdv A outer s H vs Q E hr h => ?_)
      · obtain ⟨a, k, T, ss, pa, rfl, _⟩ := h
        rfl
      · obtain ⟨a, k, T, ss, pa, rfl, hk, ht, hrk, hp, hn, hpa, hl, q⟩ := h
        refine ⟨_, (pss_cons (ps_set (i := 2) sc_Nested_units.nd rfl (by first | exact Or.inl rfl | exact Or.inr rfl) (pe_lst pa_nil))
      (pss_cons (ps_for PassesOwn.never rfl (pi_tupK (pe_fldK (pe_fldK (pv 0) rfl (K := K)) rfl (K := K)) (K := K)) (pg_tup rfl (pgs_cons (pg_name (i := 3) sc_Nested_units.nd rfl (by first | exact Or.inl rfl | exact Or.inr rfl)) (pgs_cons (pg_name (i := 4) sc_Nested_units.nd rfl (by first | exact Or.inl rfl | exact Or.inr rfl)) pgs_nil))) (pss_one (ps_expr (pe_bmK (K := K) PySem.F.plainAttrs_list PySem.F.slot_list_extend PySem.F.type_list_extend mt_extend (pv 2) (pa_cons (pe_mdV (pv 4) (.cons N_Num_units (.cons N_Nested_units (.cons N_Many_units (.cons N_Pick_units .nil)))) (hr.mono (by first | decide | omega)) pass0 (pa_cons (pe_cd D_joined (hr.mono (by first | decide | omega)) (by rfl) pass0 (pa_cons (pv 1) (pa_cons (pv 3) pa_nil))) pa_nil)) pa_nil)))))
      (pss_one (ps_ret (pv 2))))), ?_⟩
        walk_at "rd"
        cases k with
        | shp i =>
          obtain ⟨dx, s', hs', h1⟩ := hk
          obtain ⟨dx2, t2, ys, g1, g2, g3, hi⟩ := ht.shape hs'
          have hlen := Paired.length g3
          have hl2 : ((flds T i).flatMap fun q => unitsK T n q.2 (joinedL pa q.1)).length ≤ 100000 := hl
          refine ⟨by decide, New.intro fun l HA nl sA gA => ⟨_, _, _, sA _ _ h1, K_Nested, A_Nested_shape, _, lks, s', rfl, _, _, _, sA _ _ g1, K_Shape, A_Shape_fields, _, lkf, t2, rfl, ⟨_, seqT_of (sA _ _ g2)⟩, ?_⟩⟩
          refine Loop.tup (xs := ys) (fun j σ HB => ∃ y3 y4, σ = [some (.ref a), some (.str (S pa)), some (.ref l), y3, y4] ∧ Same H HB ∧ UnL K HB l (((flds T i).take j).flatMap fun q => unitsK T n q.2 (joinedL pa q.1))) ⟨_, _, rfl, sA, [], gA, .nil⟩ ?_ ?_ ?_
          · rintro j σ HB _ ⟨y3, y4, rfl, sB, uB⟩
            exact seqT_of (sB _ _ g2)
          · rintro j x σ HB hx ⟨y3, y4, rfl, sB, uB⟩
            obtain ⟨d, hd, e, c, rfl, he, hc⟩ := pget g3 hx
            obtain ⟨r1, r2, r3⟩ := hrk.2.2.2.2 d (List.mem_of_getElem? hd)
            have hcB := hc.same sB
            refine two_at (sB _ _ he) ?_
            walk_at "rd"
            obtain ⟨cl, dx3, fs, p, c1, c2, c3, c4⟩ := hcB.disp (m := "units") (spKU K ⟨C_Num, C_Nested, C_Many, C_Pick, C_Shape⟩ n) (by decide +kernel) (by decide +kernel) (by decide +kernel) (by decide +kernel) (by decide +kernel)
            obtain ⟨xa, ga, ta⟩ := uB
            have l1 := fmL_le (l := flds T i) (f := fun q => unitsK T n q.2 (joinedL pa q.1)) (j + 1)
            rw [fmL_snoc hd, List.length_append] at l1
            have l2 := joinedL_len pa d.1
            refine ⟨tyv_list (seq_of ga), cl, dx3, fs, c1, c2, _, c3, pa, d.1, rfl, r2, by omega, by omega, ?_⟩
            refine ⟨c, d.2, T, ss, _, rfl, hcB, ht.same sB, r3, c4, by omega, by omega, by omega, fun b HC nb sC uC => ?_⟩
            obtain ⟨xb, gb, tb⟩ := uC
            have e1 := UnL.len ga ⟨xa, ga, ta⟩
            have e2 := UnL.len gb ⟨xb, gb, tb⟩
            refine ⟨b, rfl, _, sC _ _ ga, _, gb, by rw [sizeLine_eq]; omega, Upd.intro fun HD oD hD => ⟨Same.off (sB.trans sC) nl oD, _, hD, ?_⟩⟩
            rw [fmL_snoc hd, List.map_append]
            exact ((ta.same sC).append tb).off oD (sC _ _ ga)
          · rintro σ HB ⟨y3, y4, rfl, sB, uB⟩
            walk_at "rd"
            rw [hlen, List.take_length] at uB
            exact q l HB nl sB uB
        | _ => cases hp
    · refine F3.ok sc_Many_units (fun vs H Q E h => ?_) (fun cdv A outer s H vs Q E hr h => ?_)
      · obtain ⟨a, k, T, ss, pa, rfl, _⟩ := h
        rfl
      · obtain ⟨a, k, T, ss, pa, rfl, hk, ht, hrk, hp, hn, hpa, hl, q⟩ := h
        refine ⟨_, (pss_cons (ps_set (i := 2) sc_Many_units.nd rfl (by first | exact Or.inl rfl | exact Or.inr rfl) (pe_lst pa_nil))
      (pss_cons (ps_for PassesOwn.never rfl (pi_rangeL1 (by rfl) z_range (pa_cons (pe_fldK (pv 0) rfl (K := K)) pa_nil)) (pg_name (i := 3) sc_Many_units.nd rfl (by first | exact Or.inl rfl | exact Or.inr rfl)) (pss_one (ps_expr (pe_bmK (K := K) PySem.F.plainAttrs_list PySem.F.slot_list_extend PySem.F.type_list_extend mt_extend (pv 2) (pa_cons (pe_mdV (pe_fldK (pv 0) rfl (K := K)) (.cons N_Num_units (.cons N_Nested_units (.cons N_Many_units (.cons N_Pick_units .nil)))) (hr.mono (by first | decide | omega)) pass0 (pa_cons (pe_cd D_joined (hr.mono (by first | decide | omega)) (by rfl) pass0 (pa_cons (pv 1) (pa_cons (pe_callTy call_strI (by rfl) z_str (by decide +kernel) (pa_cons (pv 3) pa_nil)) pa_nil))) pa_nil)) pa_nil)))))
      (pss_one (ps_ret (pv 2))))), ?_⟩
        walk_at "rd"
        cases k with
        | row m k =>
          obtain ⟨dx, b0, h1, h2⟩ := hk
          have hm := hrk.1
          have hl2 : ((List.range m).flatMap fun i => unitsK T n k (joinedL pa (TL.numL i))).length ≤ 100000 := hl
          refine ⟨by decide, New.intro fun l HA nl sA gA => ⟨_, _, _, sA _ _ h1, K_Many, A_Many_count, _, lkc, _, rfl, ?_⟩⟩
          refine Loop.range (fun i σ HB => ∃ y3, σ = [some (.ref a), some (.str (S pa)), some (.ref l), y3] ∧ Same H HB ∧ UnL K HB l ((List.range i).flatMap fun i => unitsK T n k (joinedL pa (TL.numL i)))) ⟨_, rfl, sA, [], gA, .nil⟩ ?_ ?_
          · rintro i σ HB hi ⟨y3, rfl, sB, uB⟩
            have hi' : i < m := by rw [Int.toNat_natCast] at hi; exact hi
            walk_at "rd"
            have hcB := h2.same sB
            obtain ⟨cl, dx3, fs, p, c1, c2, c3, c4⟩ := hcB.disp (m := "units") (spKU K ⟨C_Num, C_Nested, C_Many, C_Pick, C_Shape⟩ n) (by decide +kernel) (by decide +kernel) (by decide +kernel) (by decide +kernel) (by decide +kernel)
            obtain ⟨xa, ga, ta⟩ := uB
            rw [Int.zero_add]
            refine ⟨tyv_list (seq_of ga), _, _, _, sB _ _ h1, K_Many, A_Many_kind, _, lkk, b0, rfl, cl, dx3, fs, c1, c2, _, c3, str_small (by omega), ?_⟩
            rw [num_S]
            have h3 := numL_3 (i := i) (by omega)
            refine ⟨pa, TL.numL i, rfl, TL.numL_ne i, by omega, by omega, ?_⟩
            have l1 := fm_le (f := fun i => unitsK T n k (joinedL pa (TL.numL i))) (show i + 1 ≤ m by omega)
            rw [fm_snoc, List.length_append] at l1
            have l2 := joinedL_len pa (TL.numL i)
            refine ⟨b0, k, T, ss, _, rfl, hcB, ht.same sB, hrk.2, c4, by omega, by omega, by omega, fun b HC nb sC uC => ?_⟩
            obtain ⟨xb, gb, tb⟩ := uC
            have e1 := UnL.len ga ⟨xa, ga, ta⟩
            have e2 := UnL.len gb ⟨xb, gb, tb⟩
            refine ⟨b, rfl, _, sC _ _ ga, _, gb, by rw [sizeLine_eq]; omega, Upd.intro fun HD oD hD => ⟨Same.off (sB.trans sC) nl oD, _, hD, ?_⟩⟩
            rw [fm_snoc, List.map_append]
            exact ((ta.same sC).append tb).off oD (sC _ _ ga)
          · rintro σ HB ⟨y3, rfl, sB, uB⟩
            walk_at "rd"
            rw [Int.toNat_natCast] at uB
            exact q l HB nl sB uB
        | _ => cases hp
    · refine F4.ok sc_Pick_units (fun vs H Q E h => ?_) (fun cdv A outer s H vs Q E hr h => ?_)
      · obtain ⟨a, k, T, ss, pa, rfl, _⟩ := h
        rfl
      · obtain ⟨a, k, T, ss, pa, rfl, hk, ht, hrk, hp, hn, hpa, hl, q⟩ := h
        refine ⟨_, (pss_one (ps_ret (pe_lst (pa_cons (pe_tup (pa_cons (pe_cd D_joined (hr.mono (by first | decide | omega)) (by rfl) pass0 (pa_cons (pv 1) (pa_cons pe_str pa_nil))) (pa_cons pe_int (pa_cons pe_str pa_nil)))) (pa_cons (pe_tup (pa_cons (pv 1) (pa_cons (pe_md0 (pv 0) N_Pick_chosen_size (hr.mono (by first | decide | omega)) pass0) (pa_cons pe_str pa_nil)))) pa_nil))))), ?_⟩
        walk_at "rd"
        cases k with
        | pick is =>
          have hk' := hk
          obtain ⟨dx, t, ps, h1, h2, h3⟩ := hk
          refine ⟨pa, tagW', by rw [e_tag], by decide, by omega, by decide, by decide, New.intro fun u H1 n1 s1 g1 => ⟨_, _, s1 _ _ h1, lkno1 (by decide +kernel), a, is, T, ss, rfl, hk'.same s1, ht.same s1, hrk.le hn, fun H2 s2 => ⟨by decide, New.intro fun u2 H3 n3 s3 g3 => ⟨by decide, New.intro fun l2 H4 n4 s4 g4 => ?_⟩⟩⟩⟩
          have e := sizeK_le hrk hn
          rw [e, show sizeK T (n + 1) (.pick is) - 1 = maxL (is.map fun i => sizeK T n (.shp i)) from by show 1 + _ - 1 = _; omega] at g3
          refine q l2 H4 ((s1.trans (s2.trans s3)).free n4) (s1.trans (s2.trans (s3.trans s4))) ⟨_, g4, .cons ⟨u, rfl, seqT_of ?_⟩ (.cons ⟨u2, rfl, seqT_of ?_⟩ .nil)⟩
          · rw [(s2.trans (s3.trans s4)) _ _ g1, e_tag]
            rfl
          · rw [s4 _ _ g3, e_pick]
            rfl
        | _ => cases hp
end

end K10

set_option Elab.async false
set_option linter.all false
set_option pp.deepTerms true
set_option pp.maxSteps 100000
set_option format.indent 1
set_option format.width 260
set_option maxRecDepth 100000
set_option maxHeartbeats 4000000
set_option exponentiation.threshold 2000
namespace K10
open PySem PySem.Spec PyProof.Rows L2 Rb Rx SX Tx Rg Rt Rs
local macro_rules | `(tactic| walk_at "rd") => `(tactic| simp only [L2.start, wMix, rRepr, rIsX, rIsXT, gSlAll, rEqS, rNeL, rNeV, rMulS, rEqL, rNotInT, rMax, tMethV, tListVals, tDGet, iEnum, tDIn, tDNotIn, sDPut, cxOf, tSeq, tAsg, tIfS, tTest, tB, tOp, tUn, tVar, tC, tCB, tCons, tNil, tRet, tRetN, tNext, tDrop, tBM, tBM0, tLst_n, tTup_n, tAnd, tOr, tNot, tAndV, tOrV, tNotV, tIf, tChain, tCall, gName, gTup, gCons, gNil, gUnl, gSub, rI, rI0, rU, rIxL, rIxT, rSlL_n, tSl, tPart, tNoPart, rCatR, rAppend_n, rExtend_n, rPop_n, rClear_n, rSetL_n, rInsert, rRemI_n, tMake_n, sFld_n, tFld, tMeth, rIn, tFor_n, tLc_n, iRngL1, iRngL2, iList, iTup, iRev, iZip, rDivmod, rListOf, rTupOf, rLenSeq, rMin2, rMax2, rAll, rAny, rIsi, tNever, tYes, wipe, tAug, ipI, rEq, rNe, tIsN, tNotN, tDNewK_n, tRz, tCallS, tMethX, tMakeX, tXfA, wAs, wOnly, tVeI, tOst, gSlS, iRng3, rSum, rStrI, rIsB, rNotB, rSlT, rIndex, rRep_n, rInt1, tLenSetS, scal_ii, scal_bb, scal_ss, scal_nn, scal_ni, scal_in, scal_ns, scal_sn, scal_is, scal_si, List.map_cons, List.map_nil, List.length_cons, List.length_nil, List.replicate, List.nil_append, List.cons_append, List.append_nil, List.getElem?_cons_zero, List.getElem?_cons_succ, List.set_cons_zero, List.set_cons_succ, List.set_nil, Nat.reduceAdd, Nat.reduceSub, Option.some.injEq, V.int.injEq, V.ref.injEq, V.bl.injEq, V.str.injEq, V.ty.injEq, List.cons.injEq, and_assoc, and_true, true_and, exists_eq_left, exists_eq_left', exists_and_left, exists_and_right, exists_eq, exists_eq', exists_eq_right, exists_eq_right', if_true, if_false, Bool.false_eq_true, Bool.not_true, Bool.not_false, if_pos, Int.toNat_natCast, decide_eq_true_eq, Bool.not_eq_true', decide_eq_false_iff_not, reduceCtorEq, false_and, and_false, exists_false, exists_const, rIxS, C8.rSlX, rJoinS, rSplitS, tBMS, rIndexX, iStr, tDisp, tPairs])
local macro_rules | `(tactic| walk_at "ex") => `(tactic| repeat' (first | assumption | (with_reducible refine Exists.intro _ ?_) | (with_reducible refine And.intro ?_ ?_) | rfl))

section
variable {P : Program} {w : World} {K : PySem.W.Frag} {mg : Str → Option Value} {base : Heap}
theorem ok_Num_size {f f_Nested_size f_Many_size f_Pick_size f_Pick_chosen_size f_Shape_size C_Num C_Nested C_Many C_Pick C_Shape : Addr} {fd fd_Nested_size fd_Many_size fd_Pick_size fd_Pick_chosen_size fd_Shape_size : FuncData}
    (F : Fun K "size" "Num.size" s_Num_size f fd) (F_Nested_size : Fun K "size" "Nested.size" s_Nested_size f_Nested_size fd_Nested_size) (F_Many_size : Fun K "size" "Many.size" s_Many_size f_Many_size fd_Many_size) (F_Pick_size : Fun K "size" "Pick.size" s_Pick_size f_Pick_size fd_Pick_size) (F_Pick_chosen_size : Fun K "chosen_size" "Pick.chosen_size" s_Pick_chosen_size f_Pick_chosen_size fd_Pick_chosen_size) (F_Shape_size : Fun K "size" "Shape.size" s_Shape_size f_Shape_size fd_Shape_size)
    (W_Num_size : MethF K C_Num "size" f fd ["self"]) (W_Nested_size : MethF K C_Nested "size" f_Nested_size fd_Nested_size ["self"]) (W_Many_size : MethF K C_Many "size" f_Many_size fd_Many_size ["self"]) (W_Pick_size : MethF K C_Pick "size" f_Pick_size fd_Pick_size ["self"]) (W_Pick_chosen_size : MethF K C_Pick "chosen_size" f_Pick_chosen_size fd_Pick_chosen_size ["self"]) (W_Shape_size : MethF K C_Shape "size" f_Shape_size fd_Shape_size ["self"])
    (A_Num_width : NoAttr K C_Num "width") (A_Nested_shape : NoAttr K C_Nested "shape") (A_Many_count : NoAttr K C_Many "count") (A_Many_kind : NoAttr K C_Many "kind") (A_Pick_shapes : NoAttr K C_Pick "shapes") (A_Shape_fields : NoAttr K C_Shape "fields") (z_max : mg "max" = none) (z_sum : mg "sum" = none) : FnOk P w K mg base CX0 99 f fd ["self"] (spKS ⟨C_Num, C_Nested, C_Many, C_Pick, C_Shape⟩ 24 isNumK) := by
  exact (psize_all F F_Nested_size F_Many_size F_Pick_size F_Pick_chosen_size F_Shape_size W_Num_size W_Nested_size W_Many_size W_Pick_size W_Pick_chosen_size W_Shape_size A_Num_width A_Nested_shape A_Many_count A_Many_kind A_Pick_shapes A_Shape_fields z_max z_sum 24).1
theorem ok_Nested_size {f_Num_size f f_Many_size f_Pick_size f_Pick_chosen_size f_Shape_size C_Num C_Nested C_Many C_Pick C_Shape : Addr} {fd_Num_size fd fd_Many_size fd_Pick_size fd_Pick_chosen_size fd_Shape_size : FuncData}
    (F_Num_size : Fun K "size" "Num.size" s_Num_size f_Num_size fd_Num_size) (F : Fun K "size" "Nested.size" s_Nested_size f fd) (F_Many_size : Fun K "size" "Many.size" s_Many_size f_Many_size fd_Many_size) (F_Pick_size : Fun K "size" "Pick.size" s_Pick_size f_Pick_size fd_Pick_size) (F_Pick_chosen_size : Fun K "chosen_size" "Pick.chosen_size" s_Pick_chosen_size f_Pick_chosen_size fd_Pick_chosen_size) (F_Shape_size : Fun K "size" "Shape.size" s_Shape_size f_Shape_size fd_Shape_size)
    (W_Num_size : MethF K C_Num "size" f_Num_size fd_Num_size ["self"]) (W_Nested_size : MethF K C_Nested "size" f fd ["self"]) (W_Many_size : MethF K C_Many "size" f_Many_size fd_Many_size ["self"]) (W_Pick_size : MethF K C_Pick "size" f_Pick_size fd_Pick_size ["self"]) (W_Pick_chosen_size : MethF K C_Pick "chosen_size" f_Pick_chosen_size fd_Pick_chosen_size ["self"]) (W_Shape_size : MethF K C_Shape "size" f_Shape_size fd_Shape_size ["self"])
    (A_Num_width : NoAttr K C_Num "width") (A_Nested_shape : NoAttr K C_Nested "shape") (A_Many_count : NoAttr K C_Many "count") (A_Many_kind : NoAttr K C_Many "kind") (A_Pick_shapes : NoAttr K C_Pick "shapes") (A_Shape_fields : NoAttr K C_Shape "fields") (z_max : mg "max" = none) (z_sum : mg "sum" = none) : FnOk P w K mg base CX0 99 f fd ["self"] (spKS ⟨C_Num, C_Nested, C_Many, C_Pick, C_Shape⟩ 24 isShpK) := by
  exact (psize_all F_Num_size F F_Many_size F_Pick_size F_Pick_chosen_size F_Shape_size W_Num_size W_Nested_size W_Many_size W_Pick_size W_Pick_chosen_size W_Shape_size A_Num_width A_Nested_shape A_Many_count A_Many_kind A_Pick_shapes A_Shape_fields z_max z_sum 24).2.1
theorem ok_Many_size {f_Num_size f_Nested_size f f_Pick_size f_Pick_chosen_size f_Shape_size C_Num C_Nested C_Many C_Pick C_Shape : Addr} {fd_Num_size fd_Nested_size fd fd_Pick_size fd_Pick_chosen_size fd_Shape_size : FuncData}
    (F_Num_size : Fun K "size" "Num.size" s_Num_size f_Num_size fd_Num_size) (F_Nested_size : Fun K "size" "Nested.size" s_Nested_size f_Nested_size fd_Nested_size) (F : Fun K "size" "Many.size" s_Many_size f fd) (F_Pick_size : Fun K "size" "Pick.size" s_Pick_size f_Pick_size fd_Pick_size) (F_Pick_chosen_size : Fun K "chosen_size" "Pick.chosen_size" s_Pick_chosen_size f_Pick_chosen_size fd_Pick_chosen_size) (F_Shape_size : Fun K "size" "Shape.size" s_Shape_size f_Shape_size fd_Shape_size)
    (W_Num_size : MethF K C_Num "size" f_Num_size fd_Num_size ["self"]) (W_Nested_size : MethF K C_Nested "size" f_Nested_size fd_Nested_size ["self"]) (W_Many_size : MethF K C_Many "size" f fd ["self"]) (W_Pick_size : MethF K C_Pick "size" f_Pick_size fd_Pick_size ["self"]) (W_Pick_chosen_size : MethF K C_Pick "chosen_size" f_Pick_chosen_size fd_Pick_chosen_size ["self"]) (W_Shape_size : MethF K C_Shape "size" f_Shape_size fd_Shape_size ["self"])
    (A_Num_width : NoAttr K C_Num "width") (A_Nested_shape : NoAttr K C_Nested "shape") (A_Many_count : NoAttr K C_Many "count") (A_Many_kind : NoAttr K C_Many "kind") (A_Pick_shapes : NoAttr K C_Pick "shapes") (A_Shape_fields : NoAttr K C_Shape "fields") (z_max : mg "max" = none) (z_sum : mg "sum" = none) : FnOk P w K mg base CX0 99 f fd ["self"] (spKS ⟨C_Num, C_Nested, C_Many, C_Pick, C_Shape⟩ 24 isRowK) := by
  exact (psize_all F_Num_size F_Nested_size F F_Pick_size F_Pick_chosen_size F_Shape_size W_Num_size W_Nested_size W_Many_size W_Pick_size W_Pick_chosen_size W_Shape_size A_Num_width A_Nested_shape A_Many_count A_Many_kind A_Pick_shapes A_Shape_fields z_max z_sum 24).2.2.1
theorem ok_Pick_size {f_Num_size f_Nested_size f_Many_size f f_Pick_chosen_size f_Shape_size C_Num C_Nested C_Many C_Pick C_Shape : Addr} {fd_Num_size fd_Nested_size fd_Many_size fd fd_Pick_chosen_size fd_Shape_size : FuncData}
    (F_Num_size : Fun K "size" "Num.size" s_Num_size f_Num_size fd_Num_size) (F_Nested_size : Fun K "size" "Nested.size" s_Nested_size f_Nested_size fd_Nested_size) (F_Many_size : Fun K "size" "Many.size" s_Many_size f_Many_size fd_Many_size) (F : Fun K "size" "Pick.size" s_Pick_size f fd) (F_Pick_chosen_size : Fun K "chosen_size" "Pick.chosen_size" s_Pick_chosen_size f_Pick_chosen_size fd_Pick_chosen_size) (F_Shape_size : Fun K "size" "Shape.size" s_Shape_size f_Shape_size fd_Shape_size)
    (W_Num_size : MethF K C_Num "size" f_Num_size fd_Num_size ["self"]) (W_Nested_size : MethF K C_Nested "size" f_Nested_size fd_Nested_size ["self"]) (W_Many_size : MethF K C_Many "size" f_Many_size fd_Many_size ["self"]) (W_Pick_size : MethF K C_Pick "size" f fd ["self"]) (W_Pick_chosen_size : MethF K C_Pick "chosen_size" f_Pick_chosen_size fd_Pick_chosen_size ["self"]) (W_Shape_size : MethF K C_Shape "size" f_Shape_size fd_Shape_size ["self"])
    (A_Num_width : NoAttr K C_Num "width") (A_Nested_shape : NoAttr K C_Nested "shape") (A_Many_count : NoAttr K C_Many "count") (A_Many_kind : NoAttr K C_Many "kind") (A_Pick_shapes : NoAttr K C_Pick "shapes") (A_Shape_fields : NoAttr K C_Shape "fields") (z_max : mg "max" = none) (z_sum : mg "sum" = none) : FnOk P w K mg base CX0 99 f fd ["self"] (spKS ⟨C_Num, C_Nested, C_Many, C_Pick, C_Shape⟩ 24 isPickK) := by
  exact (psize_all F_Num_size F_Nested_size F_Many_size F F_Pick_chosen_size F_Shape_size W_Num_size W_Nested_size W_Many_size W_Pick_size W_Pick_chosen_size W_Shape_size A_Num_width A_Nested_shape A_Many_count A_Many_kind A_Pick_shapes A_Shape_fields z_max z_sum 24).2.2.2.1
theorem ok_Pick_chosen_size {f_Num_size f_Nested_size f_Many_size f_Pick_size f f_Shape_size C_Num C_Nested C_Many C_Pick C_Shape : Addr} {fd_Num_size fd_Nested_size fd_Many_size fd_Pick_size fd fd_Shape_size : FuncData}
    (F_Num_size : Fun K "size" "Num.size" s_Num_size f_Num_size fd_Num_size) (F_Nested_size : Fun K "size" "Nested.size" s_Nested_size f_Nested_size fd_Nested_size) (F_Many_size : Fun K "size" "Many.size" s_Many_size f_Many_size fd_Many_size) (F_Pick_size : Fun K "size" "Pick.size" s_Pick_size f_Pick_size fd_Pick_size) (F : Fun K "chosen_size" "Pick.chosen_size" s_Pick_chosen_size f fd) (F_Shape_size : Fun K "size" "Shape.size" s_Shape_size f_Shape_size fd_Shape_size)
    (W_Num_size : MethF K C_Num "size" f_Num_size fd_Num_size ["self"]) (W_Nested_size : MethF K C_Nested "size" f_Nested_size fd_Nested_size ["self"]) (W_Many_size : MethF K C_Many "size" f_Many_size fd_Many_size ["self"]) (W_Pick_size : MethF K C_Pick "size" f_Pick_size fd_Pick_size ["self"]) (W_Pick_chosen_size : MethF K C_Pick "chosen_size" f fd ["self"]) (W_Shape_size : MethF K C_Shape "size" f_Shape_size fd_Shape_size ["self"])
    (A_Num_width : NoAttr K C_Num "width") (A_Nested_shape : NoAttr K C_Nested "shape") (A_Many_count : NoAttr K C_Many "count") (A_Many_kind : NoAttr K C_Many "kind") (A_Pick_shapes : NoAttr K C_Pick "shapes") (A_Shape_fields : NoAttr K C_Shape "fields") (z_max : mg "max" = none) (z_sum : mg "sum" = none) : FnOk P w K mg base CX0 98 f fd ["self"] (spCS ⟨C_Num, C_Nested, C_Many, C_Pick, C_Shape⟩ 24) := by
  exact (psize_all F_Num_size F_Nested_size F_Many_size F_Pick_size F F_Shape_size W_Num_size W_Nested_size W_Many_size W_Pick_size W_Pick_chosen_size W_Shape_size A_Num_width A_Nested_shape A_Many_count A_Many_kind A_Pick_shapes A_Shape_fields z_max z_sum 24).2.2.2.2.1
theorem ok_Shape_size {f_Num_size f_Nested_size f_Many_size f_Pick_size f_Pick_chosen_size f C_Num C_Nested C_Many C_Pick C_Shape : Addr} {fd_Num_size fd_Nested_size fd_Many_size fd_Pick_size fd_Pick_chosen_size fd : FuncData}
    (F_Num_size : Fun K "size" "Num.size" s_Num_size f_Num_size fd_Num_size) (F_Nested_size : Fun K "size" "Nested.size" s_Nested_size f_Nested_size fd_Nested_size) (F_Many_size : Fun K "size" "Many.size" s_Many_size f_Many_size fd_Many_size) (F_Pick_size : Fun K "size" "Pick.size" s_Pick_size f_Pick_size fd_Pick_size) (F_Pick_chosen_size : Fun K "chosen_size" "Pick.chosen_size" s_Pick_chosen_size f_Pick_chosen_size fd_Pick_chosen_size) (F : Fun K "size" "Shape.size" s_Shape_size f fd)
    (W_Num_size : MethF K C_Num "size" f_Num_size fd_Num_size ["self"]) (W_Nested_size : MethF K C_Nested "size" f_Nested_size fd_Nested_size ["self"]) (W_Many_size : MethF K C_Many "size" f_Many_size fd_Many_size ["self"]) (W_Pick_size : MethF K C_Pick "size" f_Pick_size fd_Pick_size ["self"]) (W_Pick_chosen_size : MethF K C_Pick "chosen_size" f_Pick_chosen_size fd_Pick_chosen_size ["self"]) (W_Shape_size : MethF K C_Shape "size" f fd ["self"])
    (A_Num_width : NoAttr K C_Num "width") (A_Nested_shape : NoAttr K C_Nested "shape") (A_Many_count : NoAttr K C_Many "count") (A_Many_kind : NoAttr K C_Many "kind") (A_Pick_shapes : NoAttr K C_Pick "shapes") (A_Shape_fields : NoAttr K C_Shape "fields") (z_max : mg "max" = none) (z_sum : mg "sum" = none) : FnOk P w K mg base CX0 97 f fd ["self"] (spSS ⟨C_Num, C_Nested, C_Many, C_Pick, C_Shape⟩ 24) := by
  exact (psize_all F_Num_size F_Nested_size F_Many_size F_Pick_size F_Pick_chosen_size F W_Num_size W_Nested_size W_Many_size W_Pick_size W_Pick_chosen_size W_Shape_size A_Num_width A_Nested_shape A_Many_count A_Many_kind A_Pick_shapes A_Shape_fields z_max z_sum 24).2.2.2.2.2
theorem ok_Kind_depth {f f_Nested_depth f_Many_depth f_Pick_depth f_Shape_depth C_Num C_Nested C_Many C_Pick C_Shape : Addr} {fd fd_Nested_depth fd_Many_depth fd_Pick_depth fd_Shape_depth : FuncData}
    (F : Fun K "depth" "Kind.depth" s_Kind_depth f fd) (F_Nested_depth : Fun K "depth" "Nested.depth" s_Nested_depth f_Nested_depth fd_Nested_depth) (F_Many_depth : Fun K "depth" "Many.depth" s_Many_depth f_Many_depth fd_Many_depth) (F_Pick_depth : Fun K "depth" "Pick.depth" s_Pick_depth f_Pick_depth fd_Pick_depth) (F_Shape_depth : Fun K "depth" "Shape.depth" s_Shape_depth f_Shape_depth fd_Shape_depth)
    (W_Num_depth : MethF K C_Num "depth" f fd ["self"]) (W_Nested_depth : MethF K C_Nested "depth" f_Nested_depth fd_Nested_depth ["self"]) (W_Many_depth : MethF K C_Many "depth" f_Many_depth fd_Many_depth ["self"]) (W_Pick_depth : MethF K C_Pick "depth" f_Pick_depth fd_Pick_depth ["self"]) (W_Shape_depth : MethF K C_Shape "depth" f_Shape_depth fd_Shape_depth ["self"])
    (A_Nested_shape : NoAttr K C_Nested "shape") (A_Many_kind : NoAttr K C_Many "kind") (A_Pick_shapes : NoAttr K C_Pick "shapes") (A_Shape_fields : NoAttr K C_Shape "fields") (z_max : mg "max" = none) : FnOk P w K mg base CX0 99 f fd ["self"] (spKD ⟨C_Num, C_Nested, C_Many, C_Pick, C_Shape⟩ 24 isNumK) := by
  exact (pdepth_all F F_Nested_depth F_Many_depth F_Pick_depth F_Shape_depth W_Num_depth W_Nested_depth W_Many_depth W_Pick_depth W_Shape_depth A_Nested_shape A_Many_kind A_Pick_shapes A_Shape_fields z_max 24).1
theorem ok_Nested_depth {f_Kind_depth f f_Many_depth f_Pick_depth f_Shape_depth C_Num C_Nested C_Many C_Pick C_Shape : Addr} {fd_Kind_depth fd fd_Many_depth fd_Pick_depth fd_Shape_depth : FuncData}
    (F_Kind_depth : Fun K "depth" "Kind.depth" s_Kind_depth f_Kind_depth fd_Kind_depth) (F : Fun K "depth" "Nested.depth" s_Nested_depth f fd) (F_Many_depth : Fun K "depth" "Many.depth" s_Many_depth f_Many_depth fd_Many_depth) (F_Pick_depth : Fun K "depth" "Pick.depth" s_Pick_depth f_Pick_depth fd_Pick_depth) (F_Shape_depth : Fun K "depth" "Shape.depth" s_Shape_depth f_Shape_depth fd_Shape_depth)
    (W_Num_depth : MethF K C_Num "depth" f_Kind_depth fd_Kind_depth ["self"]) (W_Nested_depth : MethF K C_Nested "depth" f fd ["self"]) (W_Many_depth : MethF K C_Many "depth" f_Many_depth fd_Many_depth ["self"]) (W_Pick_depth : MethF K C_Pick "depth" f_Pick_depth fd_Pick_depth ["self"]) (W_Shape_depth : MethF K C_Shape "depth" f_Shape_depth fd_Shape_depth ["self"])
    (A_Nested_shape : NoAttr K C_Nested "shape") (A_Many_kind : NoAttr K C_Many "kind") (A_Pick_shapes : NoAttr K C_Pick "shapes") (A_Shape_fields : NoAttr K C_Shape "fields") (z_max : mg "max" = none) : FnOk P w K mg base CX0 99 f fd ["self"] (spKD ⟨C_Num, C_Nested, C_Many, C_Pick, C_Shape⟩ 24 isShpK) := by
  exact (pdepth_all F_Kind_depth F F_Many_depth F_Pick_depth F_Shape_depth W_Num_depth W_Nested_depth W_Many_depth W_Pick_depth W_Shape_depth A_Nested_shape A_Many_kind A_Pick_shapes A_Shape_fields z_max 24).2.1
theorem ok_Many_depth {f_Kind_depth f_Nested_depth f f_Pick_depth f_Shape_depth C_Num C_Nested C_Many C_Pick C_Shape : Addr} {fd_Kind_depth fd_Nested_depth fd fd_Pick_depth fd_Shape_depth : FuncData}
    (F_Kind_depth : Fun K "depth" "Kind.depth" s_Kind_depth f_Kind_depth fd_Kind_depth) (F_Nested_depth : Fun K "depth" "Nested.depth" s_Nested_depth f_Nested_depth fd_Nested_depth) (F : Fun K "depth" "Many.depth" s_Many_depth f fd) (F_Pick_depth : Fun K "depth" "Pick.depth" s_Pick_depth f_Pick_depth fd_Pick_depth) (F_Shape_depth : Fun K "depth" "Shape.depth" s_Shape_depth f_Shape_depth fd_Shape_depth)
    (W_Num_depth : MethF K C_Num "depth" f_Kind_depth fd_Kind_depth ["self"]) (W_Nested_depth : MethF K C_Nested "depth" f_Nested_depth fd_Nested_depth ["self"]) (W_Many_depth : MethF K C_Many "depth" f fd ["self"]) (W_Pick_depth : MethF K C_Pick "depth" f_Pick_depth fd_Pick_depth ["self"]) (W_Shape_depth : MethF K C_Shape "depth" f_Shape_depth fd_Shape_depth ["self"])
    (A_Nested_shape : NoAttr K C_Nested "shape") (A_Many_kind : NoAttr K C_Many "kind") (A_Pick_shapes : NoAttr K C_Pick "shapes") (A_Shape_fields : NoAttr K C_Shape "fields") (z_max : mg "max" = none) : FnOk P w K mg base CX0 99 f fd ["self"] (spKD ⟨C_Num, C_Nested, C_Many, C_Pick, C_Shape⟩ 24 isRowK) := by
  exact (pdepth_all F_Kind_depth F_Nested_depth F F_Pick_depth F_Shape_depth W_Num_depth W_Nested_depth W_Many_depth W_Pick_depth W_Shape_depth A_Nested_shape A_Many_kind A_Pick_shapes A_Shape_fields z_max 24).2.2.1
theorem ok_Pick_depth {f_Kind_depth f_Nested_depth f_Many_depth f f_Shape_depth C_Num C_Nested C_Many C_Pick C_Shape : Addr} {fd_Kind_depth fd_Nested_depth fd_Many_depth fd fd_Shape_depth : FuncData}
    (F_Kind_depth : Fun K "depth" "Kind.depth" s_Kind_depth f_Kind_depth fd_Kind_depth) (F_Nested_depth : Fun K "depth" "Nested.depth" s_Nested_depth f_Nested_depth fd_Nested_depth) (F_Many_depth : Fun K "depth" "Many.depth" s_Many_depth f_Many_depth fd_Many_depth) (F : Fun K "depth" "Pick.depth" s_Pick_depth f fd) (F_Shape_depth : Fun K "depth" "Shape.depth" s_Shape_depth f_Shape_depth fd_Shape_depth)
    (W_Num_depth : MethF K C_Num "depth" f_Kind_depth fd_Kind_depth ["self"]) (W_Nested_depth : MethF K C_Nested "depth" f_Nested_depth fd_Nested_depth ["self"]) (W_Many_depth : MethF K C_Many "depth" f_Many_depth fd_Many_depth ["self"]) (W_Pick_depth : MethF K C_Pick "depth" f fd ["self"]) (W_Shape_depth : MethF K C_Shape "depth" f_Shape_depth fd_Shape_depth ["self"])
    (A_Nested_shape : NoAttr K C_Nested "shape") (A_Many_kind : NoAttr K C_Many "kind") (A_Pick_shapes : NoAttr K C_Pick "shapes") (A_Shape_fields : NoAttr K C_Shape "fields") (z_max : mg "max" = none) : FnOk P w K mg base CX0 99 f fd ["self"] (spKD ⟨C_Num, C_Nested, C_Many, C_Pick, C_Shape⟩ 24 isPickK) := by
  exact (pdepth_all F_Kind_depth F_Nested_depth F_Many_depth F F_Shape_depth W_Num_depth W_Nested_depth W_Many_depth W_Pick_depth W_Shape_depth A_Nested_shape A_Many_kind A_Pick_shapes A_Shape_fields z_max 24).2.2.2.1
theorem ok_Shape_depth {f_Kind_depth f_Nested_depth f_Many_depth f_Pick_depth f C_Num C_Nested C_Many C_Pick C_Shape : Addr} {fd_Kind_depth fd_Nested_depth fd_Many_depth fd_Pick_depth fd : FuncData}
    (F_Kind_depth : Fun K "depth" "Kind.depth" s_Kind_depth f_Kind_depth fd_Kind_depth) (F_Nested_depth : Fun K "depth" "Nested.depth" s_Nested_depth f_Nested_depth fd_Nested_depth) (F_Many_depth : Fun K "depth" "Many.depth" s_Many_depth f_Many_depth fd_Many_depth) (F_Pick_depth : Fun K "depth" "Pick.depth" s_Pick_depth f_Pick_depth fd_Pick_depth) (F : Fun K "depth" "Shape.depth" s_Shape_depth f fd)
    (W_Num_depth : MethF K C_Num "depth" f_Kind_depth fd_Kind_depth ["self"]) (W_Nested_depth : MethF K C_Nested "depth" f_Nested_depth fd_Nested_depth ["self"]) (W_Many_depth : MethF K C_Many "depth" f_Many_depth fd_Many_depth ["self"]) (W_Pick_depth : MethF K C_Pick "depth" f_Pick_depth fd_Pick_depth ["self"]) (W_Shape_depth : MethF K C_Shape "depth" f fd ["self"])
    (A_Nested_shape : NoAttr K C_Nested "shape") (A_Many_kind : NoAttr K C_Many "kind") (A_Pick_shapes : NoAttr K C_Pick "shapes") (A_Shape_fields : NoAttr K C_Shape "fields") (z_max : mg "max" = none) : FnOk P w K mg base CX0 97 f fd ["self"] (spSD ⟨C_Num, C_Nested, C_Many, C_Pick, C_Shape⟩ 24) := by
  exact (pdepth_all F_Kind_depth F_Nested_depth F_Many_depth F_Pick_depth F W_Num_depth W_Nested_depth W_Many_depth W_Pick_depth W_Shape_depth A_Nested_shape A_Many_kind A_Pick_shapes A_Shape_fields z_max 24).2.2.2.2
theorem ok_Num_units {f f_Nested_units f_Many_units f_Pick_units C_Num C_Nested C_Many C_Pick C_Shape : Addr} {fd fd_Nested_units fd_Many_units fd_Pick_units : FuncData}
    (F : Fun K "units" "Num.units" s_Num_units f fd) (F_Nested_units : Fun K "units" "Nested.units" s_Nested_units f_Nested_units fd_Nested_units) (F_Many_units : Fun K "units" "Many.units" s_Many_units f_Many_units fd_Many_units) (F_Pick_units : Fun K "units" "Pick.units" s_Pick_units f_Pick_units fd_Pick_units)
    (W_Num_units : MethF K C_Num "units" f fd ["self", "path"]) (W_Nested_units : MethF K C_Nested "units" f_Nested_units fd_Nested_units ["self", "path"]) (W_Many_units : MethF K C_Many "units" f_Many_units fd_Many_units ["self", "path"]) (W_Pick_units : MethF K C_Pick "units" f_Pick_units fd_Pick_units ["self", "path"])
    (A_Num_width : NoAttr K C_Num "width") (A_Nested_shape : NoAttr K C_Nested "shape") (A_Many_count : NoAttr K C_Many "count") (A_Many_kind : NoAttr K C_Many "kind") (A_Shape_fields : NoAttr K C_Shape "fields") (z_range : mg "range" = none) (z_str : mg "str" = none) (D_joined : Dn P w K mg base CX0 1 "joined" ["path", "step"] spJoined) (N_Pick_chosen_size : Nn P w K mg base CX0 98 C_Pick "chosen_size" ["self"] (spCS ⟨C_Num, C_Nested, C_Many, C_Pick, C_Shape⟩ 24)) (K_Shape : Cls K C_Shape) : FnOk P w K mg base CX0 124 f fd ["self", "path"] (spKU K ⟨C_Num, C_Nested, C_Many, C_Pick, C_Shape⟩ 24 isNumK) := by
  exact (punits_all F F_Nested_units F_Many_units F_Pick_units W_Num_units W_Nested_units W_Many_units W_Pick_units A_Num_width A_Nested_shape A_Many_count A_Many_kind A_Shape_fields z_range z_str D_joined N_Pick_chosen_size K_Shape 24).1
theorem ok_Nested_units {f_Num_units f f_Many_units f_Pick_units C_Num C_Nested C_Many C_Pick C_Shape : Addr} {fd_Num_units fd fd_Many_units fd_Pick_units : FuncData}
    (F_Num_units : Fun K "units" "Num.units" s_Num_units f_Num_units fd_Num_units) (F : Fun K "units" "Nested.units" s_Nested_units f fd) (F_Many_units : Fun K "units" "Many.units" s_Many_units f_Many_units fd_Many_units) (F_Pick_units : Fun K "units" "Pick.units" s_Pick_units f_Pick_units fd_Pick_units)
    (W_Num_units : MethF K C_Num "units" f_Num_units fd_Num_units ["self", "path"]) (W_Nested_units : MethF K C_Nested "units" f fd ["self", "path"]) (W_Many_units : MethF K C_Many "units" f_Many_units fd_Many_units ["self", "path"]) (W_Pick_units : MethF K C_Pick "units" f_Pick_units fd_Pick_units ["self", "path"])
    (A_Num_width : NoAttr K C_Num "width") (A_Nested_shape : NoAttr K C_Nested "shape") (A_Many_count : NoAttr K C_Many "count") (A_Many_kind : NoAttr K C_Many "kind") (A_Shape_fields : NoAttr K C_Shape "fields") (z_range : mg "range" = none) (z_str : mg "str" = none) (D_joined : Dn P w K mg base CX0 1 "joined" ["path", "step"] spJoined) (N_Pick_chosen_size : Nn P w K mg base CX0 98 C_Pick "chosen_size" ["self"] (spCS ⟨C_Num, C_Nested, C_Many, C_Pick, C_Shape⟩ 24)) (K_Shape : Cls K C_Shape) : FnOk P w K mg base CX0 124 f fd ["self", "path"] (spKU K ⟨C_Num, C_Nested, C_Many, C_Pick, C_Shape⟩ 24 isShpK) := by
  exact (punits_all F_Num_units F F_Many_units F_Pick_units W_Num_units W_Nested_units W_Many_units W_Pick_units A_Num_width A_Nested_shape A_Many_count A_Many_kind A_Shape_fields z_range z_str D_joined N_Pick_chosen_size K_Shape 24).2.1
theorem ok_Many_units {f_Num_units f_Nested_units f f_Pick_units C_Num C_Nested C_Many C_Pick C_Shape : Addr} {fd_Num_units fd_Nested_units fd fd_Pick_units : FuncData}
    (F_Num_units : Fun K "units" "Num.units" s_Num_units f_Num_units fd_Num_units) (F_Nested_units : Fun K "units" "Nested.units" s_Nested_units f_Nested_units fd_Nested_units) (F : Fun K "units" "Many.units" s_Many_units f fd) (F_Pick_units : Fun K "units" "Pick.units" s_Pick_units f_Pick_units fd_Pick_units)
    (W_Num_units : MethF K C_Num "units" f_Num_units fd_Num_units ["self", "path"]) (W_Nested_units : MethF K C_Nested "units" f_Nested_units fd_Nested_units ["self", "path"]) (W_Many_units : MethF K C_Many "units" f fd ["self", "path"]) (W_Pick_units : MethF K C_Pick "units" f_Pick_units fd_Pick_units ["self", "path"])
    (A_Num_width : NoAttr K C_Num "width") (A_Nested_shape : NoAttr K C_Nested "shape") (A_Many_count : NoAttr K C_Many "count") (A_Many_kind : NoAttr K C_Many "kind") (A_Shape_fields : NoAttr K C_Shape "fields") (z_range : mg "range" = none) (z_str : mg "str" = none) (D_joined : Dn P w K mg base CX0 1 "joined" ["path", "step"] spJoined) (N_Pick_chosen_size : Nn P w K mg base CX0 98 C_Pick "chosen_size" ["self"] (spCS ⟨C_Num, C_Nested, C_Many, C_Pick, C_Shape⟩ 24)) (K_Shape : Cls K C_Shape) : FnOk P w K mg base CX0 124 f fd ["self", "path"] (spKU K ⟨C_Num, C_Nested, C_Many, C_Pick, C_Shape⟩ 24 isRowK) := by
  exact (punits_all F_Num_units F_Nested_units F F_Pick_units W_Num_units W_Nested_units W_Many_units W_Pick_units A_Num_width A_Nested_shape A_Many_count A_Many_kind A_Shape_fields z_range z_str D_joined N_Pick_chosen_size K_Shape 24).2.2.1
theorem ok_Pick_units {f_Num_units f_Nested_units f_Many_units f C_Num C_Nested C_Many C_Pick C_Shape : Addr} {fd_Num_units fd_Nested_units fd_Many_units fd : FuncData}
    (F_Num_units : Fun K "units" "Num.units" s_Num_units f_Num_units fd_Num_units) (F_Nested_units : Fun K "units" "Nested.units" s_Nested_units f_Nested_units fd_Nested_units) (F_Many_units : Fun K "units" "Many.units" s_Many_units f_Many_units fd_Many_units) (F : Fun K "units" "Pick.units" s_Pick_units f fd)
    (W_Num_units : MethF K C_Num "units" f_Num_units fd_Num_units ["self", "path"]) (W_Nested_units : MethF K C_Nested "units" f_Nested_units fd_Nested_units ["self", "path"]) (W_Many_units : MethF K C_Many "units" f_Many_units fd_Many_units ["self", "path"]) (W_Pick_units : MethF K C_Pick "units" f fd ["self", "path"])
    (A_Num_width : NoAttr K C_Num "width") (A_Nested_shape : NoAttr K C_Nested "shape") (A_Many_count : NoAttr K C_Many "count") (A_Many_kind : NoAttr K C_Many "kind") (A_Shape_fields : NoAttr K C_Shape "fields") (z_range : mg "range" = none) (z_str : mg "str" = none) (D_joined : Dn P w K mg base CX0 1 "joined" ["path", "step"] spJoined) (N_Pick_chosen_size : Nn P w K mg base CX0 98 C_Pick "chosen_size" ["self"] (spCS ⟨C_Num, C_Nested, C_Many, C_Pick, C_Shape⟩ 24)) (K_Shape : Cls K C_Shape) : FnOk P w K mg base CX0 124 f fd ["self", "path"] (spKU K ⟨C_Num, C_Nested, C_Many, C_Pick, C_Shape⟩ 24 isPickK) := by
  exact (punits_all F_Num_units F_Nested_units F_Many_units F W_Num_units W_Nested_units W_Many_units W_Pick_units A_Num_width A_Nested_shape A_Many_count A_Many_kind A_Shape_fields z_range z_str D_joined N_Pick_chosen_size K_Shape 24).2.2.2
end

/-! ### shapetext.py, of good texts -/
def spNumI (C : Addr) : Sp := fun vs H Q _ => ∃ (p dx : Addr) (x : V), vs = [.ref p, x] ∧ H p = some (.ins C dx []) ∧ ∀ H1, Off p H H1 → H1 p = some (.ins C dx [(Str.ofString "width", x)]) → Q .non H1
def spNestedI (C : Addr) : Sp := fun vs H Q _ => ∃ (p dx : Addr) (x : V), vs = [.ref p, x] ∧ H p = some (.ins C dx []) ∧ ∀ H1, Off p H H1 → H1 p = some (.ins C dx [(Str.ofString "shape", x)]) → Q .non H1
def spManyI (C : Addr) : Sp := fun vs H Q _ => ∃ (p dx : Addr) (x y : V), vs = [.ref p, x, y] ∧ H p = some (.ins C dx []) ∧ ∀ H1, Off p H H1 → H1 p = some (.ins C dx [(Str.ofString "count", x), (Str.ofString "kind", y)]) → Q .non H1
def spTupI (K : PySem.W.Frag) (C : Addr) : Sp := fun vs H Q _ => ∃ (p dx l : Addr) (xs : List V), vs = [.ref p, .ref l] ∧ H p = some (.ins C dx []) ∧ SqL K H l xs ∧ ∀ t H1, Off p H H1 → H t = none → H1 t = some (.tup xs) → H1 p = some (.ins C dx [(Str.ofString "shapes", .ref t)]) → Q .non H1
def spShapeI (K : PySem.W.Frag) (C : Addr) : Sp := fun vs H Q _ => ∃ (p dx l : Addr) (n : V) (xs : List V), vs = [.ref p, n, .ref l] ∧ H p = some (.ins C dx []) ∧ SqL K H l xs ∧ l ≠ p ∧ ∀ t H1, Off p H H1 → H t = none → H1 t = some (.tup xs) → H1 p = some (.ins C dx [(Str.ofString "name", n), (Str.ofString "fields", .ref t)]) → Q .non H1
section
variable {P : Program} {w : World} {K : PySem.W.Frag} {mg : Str → Option Value} {base : Heap}
theorem ok_numI {f C_Num : Addr} {fd : FuncData} (F : Fun K "__init__" "Num.__init__" s_Num_init f fd) (K_Num : Cls K C_Num) (A_Num_width : NoAttr K C_Num "width") : FnOk P w K mg base CX0 1 f fd ["self", "width"] (spNumI C_Num) := by
  refine F.ok sc_Num_init (fun vs H Q E h => ?_) (fun cdv A outer s H vs Q E hr h => ?_)
  · obtain ⟨p, dx, x, rfl, _⟩ := h
    rfl
  · obtain ⟨p, dx, x, rfl, hp, q⟩ := h
    refine ⟨_, (pss_one (ps_fldK (pv 0) (pv 1) rfl (K := K))), ?_⟩
    walk_at "rd"
    exact ⟨_, _, _, hp, K_Num, A_Num_width, by decide, Upd.intro fun H1 o1 h1 => q H1 o1 h1⟩
theorem ok_nestedI {f C_Nested : Addr} {fd : FuncData} (F : Fun K "__init__" "Nested.__init__" s_Nested_init f fd) (K_Nested : Cls K C_Nested) (A_Nested_shape : NoAttr K C_Nested "shape") : FnOk P w K mg base CX0 1 f fd ["self", "shape"] (spNestedI C_Nested) := by
  refine F.ok sc_Nested_init (fun vs H Q E h => ?_) (fun cdv A outer s H vs Q E hr h => ?_)
  · obtain ⟨p, dx, x, rfl, _⟩ := h
    rfl
  · obtain ⟨p, dx, x, rfl, hp, q⟩ := h
    refine ⟨_, (pss_one (ps_fldK (pv 0) (pv 1) rfl (K := K))), ?_⟩
    walk_at "rd"
    exact ⟨_, _, _, hp, K_Nested, A_Nested_shape, by decide, Upd.intro fun H1 o1 h1 => q H1 o1 h1⟩
theorem ok_manyI {f C_Many : Addr} {fd : FuncData} (F : Fun K "__init__" "Many.__init__" s_Many_init f fd) (K_Many : Cls K C_Many) (A_Many_count : NoAttr K C_Many "count") (A_Many_kind : NoAttr K C_Many "kind") : FnOk P w K mg base CX0 1 f fd ["self", "count", "kind"] (spManyI C_Many) := by
  refine F.ok sc_Many_init (fun vs H Q E h => ?_) (fun cdv A outer s H vs Q E hr h => ?_)
  · obtain ⟨p, dx, x, y, rfl, _⟩ := h
    rfl
  · obtain ⟨p, dx, x, y, rfl, hp, q⟩ := h
    refine ⟨_, (pss_cons (ps_fldK (pv 0) (pv 1) rfl (K := K))
      (pss_one (ps_fldK (pv 0) (pv 2) rfl (K := K)))), ?_⟩
    walk_at "rd"
    refine ⟨_, _, _, hp, K_Many, A_Many_count, by decide, Upd.intro fun H1 o1 h1 => ⟨_, _, _, h1, K_Many, A_Many_kind, show (1 : Nat) < 1000 by decide, Upd.intro fun H2 o2 h2 => q H2 (o1.trans o2) ?_⟩⟩
    rw [h2]
    rw [show putF (Str.ofString "count") x [] = [(Str.ofString "count", x)] from rfl, putF1 (by decide +kernel)]
    rfl
theorem ok_pickI {f C_Pick : Addr} {fd : FuncData} (F : Fun K "__init__" "Pick.__init__" s_Pick_init f fd) (z_tuple : mg "tuple" = none) (K_Pick : Cls K C_Pick) (A_Pick_shapes : NoAttr K C_Pick "shapes") : FnOk P w K mg base CX0 1 f fd ["self", "shapes"] (spTupI K C_Pick) := by
  refine F.ok sc_Pick_init (fun vs H Q E h => ?_) (fun cdv A outer s H vs Q E hr h => ?_)
  · obtain ⟨p, dx, l, xs, rfl, _⟩ := h
    rfl
  · obtain ⟨p, dx, l, xs, rfl, hp, hl, q⟩ := h
    refine ⟨_, (pss_one (ps_fldK (pv 0) (pe_callTy (call_tupR (K := K)) (by rfl) z_tuple (by decide +kernel) (pa_cons (pv 1) pa_nil)) rfl (K := K))), ?_⟩
    walk_at "rd"
    refine ⟨_, .inl ⟨hl, New.intro fun t H1 nt s1 h1 => ⟨_, _, _, s1 _ _ hp, K_Pick, A_Pick_shapes, by decide, Upd.intro fun H2 o2 h2 => ?_⟩⟩⟩
    have ntp : t ≠ p := fun e => by
      rw [e, hp] at nt
      cases nt
    exact q t H2 ((Off.of s1).trans o2) nt (o2 _ _ ntp h1) h2
theorem ok_shapesI {f C_Shapes : Addr} {fd : FuncData} (F : Fun K "__init__" "Shapes.__init__" s_Shapes_init f fd) (z_tuple : mg "tuple" = none) (K_Shapes : Cls K C_Shapes) (A_Shapes_shapes : NoAttr K C_Shapes "shapes") : FnOk P w K mg base CX0 1 f fd ["self", "shapes"] (spTupI K C_Shapes) := by
  refine F.ok sc_Shapes_init (fun vs H Q E h => ?_) (fun cdv A outer s H vs Q E hr h => ?_)
  · obtain ⟨p, dx, l, xs, rfl, _⟩ := h
    rfl
  · obtain ⟨p, dx, l, xs, rfl, hp, hl, q⟩ := h
    refine ⟨_, (pss_one (ps_fldK (pv 0) (pe_callTy (call_tupR (K := K)) (by rfl) z_tuple (by decide +kernel) (pa_cons (pv 1) pa_nil)) rfl (K := K))), ?_⟩
    walk_at "rd"
    refine ⟨_, .inl ⟨hl, New.intro fun t H1 nt s1 h1 => ⟨_, _, _, s1 _ _ hp, K_Shapes, A_Shapes_shapes, by decide, Upd.intro fun H2 o2 h2 => ?_⟩⟩⟩
    have ntp : t ≠ p := fun e => by
      rw [e, hp] at nt
      cases nt
    exact q t H2 ((Off.of s1).trans o2) nt (o2 _ _ ntp h1) h2
theorem ok_shapeI {f C_Shape : Addr} {fd : FuncData} (F : Fun K "__init__" "Shape.__init__" s_Shape_init f fd) (z_tuple : mg "tuple" = none) (K_Shape : Cls K C_Shape) (A_Shape_name : NoAttr K C_Shape "name") (A_Shape_fields : NoAttr K C_Shape "fields") : FnOk P w K mg base CX0 1 f fd ["self", "name", "fields"] (spShapeI K C_Shape) := by
  refine F.ok sc_Shape_init (fun vs H Q E h => ?_) (fun cdv A outer s H vs Q E hr h => ?_)
  · obtain ⟨p, dx, l, n, xs, rfl, _⟩ := h
    rfl
  · obtain ⟨p, dx, l, n, xs, rfl, hp, hl, nlp, q⟩ := h
    refine ⟨_, (pss_cons (ps_fldK (pv 0) (pv 1) rfl (K := K))
      (pss_one (ps_fldK (pv 0) (pe_callTy (call_tupR (K := K)) (by rfl) z_tuple (by decide +kernel) (pa_cons (pv 2) pa_nil)) rfl (K := K)))), ?_⟩
    walk_at "rd"
    refine ⟨_, _, _, hp, K_Shape, A_Shape_name, by decide, Upd.intro fun H1 o1 h1 => ?_⟩
    have hl1 : SqL K H1 l xs := by
      rcases hl with (h | ⟨o, h⟩) | h
      · exact .inl (.inl (o1 _ _ nlp h))
      · exact .inl (.inr ⟨o, o1 _ _ nlp h⟩)
      · exact .inr h
    refine ⟨_, .inl ⟨hl1, New.intro fun t H2 nt s2 h2 => ⟨_, _, _, s2 _ _ h1, K_Shape, A_Shape_fields, show (1 : Nat) < 1000 by decide, Upd.intro fun H3 o3 h3 => ?_⟩⟩⟩
    have ntp : t ≠ p := fun e => by
      rw [e, h1] at nt
      cases nt
    have ntH : H t = none := o1.none hp nt ⟨_, h1⟩
    refine q t H3 (o1.trans ((Off.of s2).trans o3)) ntH (o3 _ _ ntp h2) ?_
    rw [h3]
    rw [show putF (Str.ofString "name") n [] = [(Str.ofString "name", n)] from rfl, putF1 (by decide +kernel)]
    rfl
end

end K10

set_option Elab.async false
set_option linter.all false
set_option pp.deepTerms true
set_option pp.maxSteps 100000
set_option format.indent 1
set_option format.width 260
set_option maxRecDepth 100000
set_option maxHeartbeats 4000000
set_option exponentiation.threshold 2000
namespace K10
open PySem PySem.Spec PyProof.Rows L2 Rb Rx SX Tx Rg Rt Rs
local macro_rules | `(tactic| walk_at "rd") => `(tactic| simp only [L2.start, wMix, rRepr, rIsX, rIsXT, gSlAll, rEqS, rNeL, rNeV, rMulS, rEqL, rNotInT, rMax, tMethV, tListVals, tDGet, iEnum, tDIn, tDNotIn, sDPut, cxOf, tSeq, tAsg, tIfS, tTest, tB, tOp, tUn, tVar, tC, tCB, tCons, tNil, tRet, tRetN, tNext, tDrop, tBM, tBM0, tLst_n, tTup_n, tAnd, tOr, tNot, tAndV, tOrV, tNotV, tIf, tChain, tCall, gName, gTup, gCons, gNil, gUnl, gSub, rI, rI0, rU, rIxL, rIxT, rSlL_n, tSl, tPart, tNoPart, rCatR, rAppend_n, rExtend_n, rPop_n, rClear_n, rSetL_n, rInsert, rRemI_n, tMake_n, sFld_n, tFld, tMeth, rIn, tFor_n, tLc_n, iRngL1, iRngL2, iList, iTup, iRev, iZip, rDivmod, rListOf, rTupOf, rLenSeq, rMin2, rMax2, rAll, rAny, rIsi, tNever, tYes, wipe, tAug, ipI, rEq, rNe, tIsN, tNotN, tDNewK_n, tRz, tCallS, tMethX, tMakeX, tXfA, wAs, wOnly, tVeI, tOst, gSlS, iRng3, rSum, rStrI, rIsB, rNotB, rSlT, rIndex, rRep_n, rInt1, tLenSetS, scal_ii, scal_bb, scal_ss, scal_nn, scal_ni, scal_in, scal_ns, scal_sn, scal_is, scal_si, List.map_cons, List.map_nil, List.length_cons, List.length_nil, List.replicate, List.nil_append, List.cons_append, List.append_nil, List.getElem?_cons_zero, List.getElem?_cons_succ, List.set_cons_zero, List.set_cons_succ, List.set_nil, Nat.reduceAdd, Nat.reduceSub, Option.some.injEq, V.int.injEq, V.ref.injEq, V.bl.injEq, V.str.injEq, V.ty.injEq, List.cons.injEq, and_assoc, and_true, true_and, exists_eq_left, exists_eq_left', exists_and_left, exists_and_right, exists_eq, exists_eq', exists_eq_right, exists_eq_right', if_true, if_false, Bool.false_eq_true, Bool.not_true, Bool.not_false, if_pos, Int.toNat_natCast, decide_eq_true_eq, Bool.not_eq_true', decide_eq_false_iff_not, reduceCtorEq, false_and, and_false, exists_false, exists_const, rIxS, C8.rSlX, rJoinS, rSplitS, tBMS, rIndexX, iStr, tDisp, tPairs])
local macro_rules | `(tactic| walk_at "ex") => `(tactic| repeat' (first | assumption | (with_reducible refine Exists.intro _ ?_) | (with_reducible refine And.intro ?_ ?_) | rfl))

/-! ### the words of a kind -/
theorem cut_toW (ws : List (List Nat)) (j : Nat) : cutV (wds ws) none (some (j : Int)) = wds (ws.take j) := by
  rw [cut_to]
  unfold wds
  rw [List.map_take]
theorem cut_fromW (ws : List (List Nat)) (j : Nat) : cutV (wds ws) (some (j : Int)) none = wds (ws.drop j) := by
  rw [cut_from]
  unfold wds
  rw [List.map_drop]
theorem cut_midW (ws : List (List Nat)) (i j : Nat) : cutV (wds ws) (some (i : Int)) (some (j : Int)) = wds ((ws.drop i).take (j - i)) := by
  rw [cut_mid]
  unfold wds
  rw [List.map_take, List.map_drop]
def AscW (ws : List (List Nat)) : Prop := ∀ w ∈ ws, ∀ c ∈ w, c < 128
theorem strOk_S {l : List Nat} (h : ∀ c ∈ l, c < 128) : PyData.strOk (S l) = true := by
  show (l.toArray).all (· < 0x110000) = true
  rw [List.all_toArray, List.all_eq_true]
  intro c hc
  have := h c hc
  exact decide_eq_true (by omega)
theorem wds_pd : ∀ {ws : List (List Nat)}, AscW ws → (wds ws).all isPd = true
  | [], _ => rfl
  | a :: r, h => by
    have := wds_pd (ws := r) fun w hw => h w (List.mem_cons_of_mem _ hw)
    unfold wds at this ⊢
    rw [List.map_cons, List.all_cons, this]
    show (PyData.strOk (S a) && true) = true
    rw [strOk_S (h a List.mem_cons_self)]
    rfl
theorem eqvAll_wds : ∀ xs ys : List (List Nat), PyData.eqvAll ((wds xs).map pd) ((wds ys).map pd) = decide (xs = ys)
  | [], [] => rfl
  | [], _ :: _ => rfl
  | _ :: _, [] => rfl
  | a :: r, b :: t => by
    show ((S a == S b) && PyData.eqvAll ((wds r).map pd) ((wds t).map pd)) = decide (a :: r = b :: t)
    rw [eqvAll_wds r t, S_beq]
    by_cases h : a = b
    · subst h
      simp
    · simp [h]
theorem eq_wds {K : PySem.W.Frag} {H : Hp} {a b : Addr} {xs ys : List (List Nat)} {Q : VK} (ax : AscW xs) (ay : AscW ys) (ha : SqL K H a (wds xs)) (hb : SqL K H b (wds ys)) (q : Q (.bl (decide (xs = ys))) H) : rEqD K (.ref a) (.ref b) H Q :=
  ⟨_, _, dp_lst ha (wds_pd ax), dp_lst hb (wds_pd ay), shaped_lst (wds_pd ax), shaped_lst (wds_pd ay), by
    rw [show PyData.eqv (.list ((wds xs).map pd)) (.list ((wds ys).map pd)) = decide (xs = ys) from eqvAll_wds xs ys]
    exact q⟩
theorem asc_take {ws : List (List Nat)} (h : AscW ws) (n : Nat) : AscW (ws.take n) := fun w hw => h w (List.take_subset _ _ hw)
theorem asc1 {w : List Nat} (h : ∀ c ∈ w, c < 128) : AscW [w] := fun x hx => by rw [List.mem_singleton.mp hx]; exact h
theorem asc_numL (n : Nat) : ∀ c ∈ TL.numL n, c < 128 := fun c hc => by
  have := TL.numL_digits n c hc
  rcases this with ⟨h1, h2⟩
  omega
theorem asc_name {l : List Nat} (h : isNameL l = true) : ∀ c ∈ l, c < 128 := fun c hc => by
  have := (isName_len h).2.2.1 c hc
  omega
theorem one_wds (l : List Nat) {z : Str} (h : z = S l) : [V.str z] = wds [l] := by
  subst h
  rfl
theorem num_read : ∀ w ≤ 10, numL (TL.numL w) = some w := by decide +kernel
theorem num_within {w : Nat} {lo hi : Int} (h : w ≤ 10) (h1 : lo ≤ w) (h2 : w ≤ hi) : numV (.str (S (TL.numL w))) lo hi = .int (w : Int) := by
  show withinV (numL (TL.numL w)) lo hi = _
  rw [num_read w h]
  unfold withinV
  dsimp only
  rw [if_pos ⟨h1, h2⟩]
def notRow : Kd → Bool
  | .row _ _ => false
  | _ => true
def rowD : Kd → Nat
  | .row _ k => rowD k + 1
  | _ => 0
theorem own_mem : numW ∈ ownL ∧ rowW ∈ ownL ∧ pickW' ∈ ownL ∧ shapeW ∈ ownL := by decide +kernel
theorem wf_name {T : Tb} (w : WfT T) {i : Nat} (hi : i < T.length) : isNameL (nameT T i) = true := by
  have e := List.getElem?_eq_getElem hi
  rw [name_at e]
  exact (w.2 i _ e).name
theorem name_not {l : List Nat} (h : isNameL l = true) : l ≠ numW ∧ l ≠ rowW ∧ l ≠ pickW' ∧ l ≠ shapeW := by
  have := (isName_len h).2.2.2
  obtain ⟨h1, h2, h3, h4⟩ := own_mem
  exact ⟨fun e => this (e ▸ h1), fun e => this (e ▸ h2), fun e => this (e ▸ h3), fun e => this (e ▸ h4)⟩
/-- is the first word w0? -/
theorem test1 {K : PySem.W.Frag} {H : Hp} {l : Addr} {ws : List (List Nat)} {w0 : List Nat} {z : Str} {A B : Hp → Prop} (aw : AscW ws) (a0 : ∀ c ∈ w0, c < 128) (hl : H l = some (.lst (wds ws))) (hz : z = S w0) (r : ∀ H1, Same H H1 → if decide (ws.take 1 = [w0]) = true then A H1 else B H1) :
    ∃ x, SqL K H l x ∧ New H (HO.lst (cutV x none (some 1))) fun p H2 => 1 ≤ sizeLine ∧ New H2 (HO.lst [V.str z]) fun p_1 H2 => rEqD K (V.ref p) (V.ref p_1) H2 fun x H' => ∃ k, x = V.bl k ∧ if k = true then A H' else B H' := by
  refine ⟨_, seq_of hl, New.intro fun p H1 n1 s1 g1 => ⟨by decide, New.intro fun p2 H2 n2 s2 g2 => ?_⟩⟩
  rw [show (some (1 : Int)) = some ((1 : Nat) : Int) from rfl, cut_toW] at g1
  rw [one_wds w0 hz] at g2
  exact eq_wds (asc_take aw 1) (asc1 a0) (seq_of (s2 _ _ g1)) (seq_of g2) ⟨_, rfl, r H2 (s1.trans s2)⟩
theorem wordsK_len (T : Tb) : ∀ k : Kd, (wordsK T k).length ≥ 1
  | .num _ => by show 2 ≥ 1; decide
  | .row _ k => by show (wordsK T k).length + 1 + 1 ≥ 1; omega
  | .shp _ => Nat.le_refl _
  | .pick is => by show (is.map (nameT T)).length + 1 ≥ 1; omega
theorem asc_words {T : Tb} (w : WfT T) : ∀ {m : Nat} {k : Kd}, m ≤ T.length → KOk m k → AscW (wordsK T k)
  | m, .num x, hm, hk => fun v hv => by
    rcases List.mem_cons.mp hv with rfl | hv
    · decide
    · rw [List.mem_singleton.mp hv]
      exact asc_numL x
  | m, .shp i, hm, hk => fun v hv => by
    rw [List.mem_singleton.mp hv]
    exact asc_name (wf_name w (Nat.lt_of_lt_of_le hk hm))
  | m, .pick is, hm, hk => fun v hv => by
    rcases List.mem_cons.mp hv with rfl | hv
    · decide
    · obtain ⟨i, hi, rfl⟩ := List.mem_map.mp hv
      exact asc_name (wf_name w (Nat.lt_of_lt_of_le (hk.2.2.2 i hi) hm))
  | m, .row n k, hm, hk => fun v hv => by
    rcases List.mem_cons.mp hv with rfl | hv
    · decide
    · rcases List.mem_cons.mp hv with rfl | hv
      · exact asc_numL n
      · rcases hk.2.2 with ⟨w', rfl, h4, h5⟩ | ⟨i, rfl, hi⟩
        · exact asc_words w (k := .num w') hm ⟨h4, h5⟩ v hv
        · exact asc_words w (k := .shp i) hm hi v hv
def spForm (n : Nat) : Sp := fun vs H Q _ => ∃ (l : Addr) (k : Kd) (T : Tb), vs = [.ref l] ∧ H l = some (.lst (wds (wordsK T k))) ∧ WfT T ∧ KOk T.length k ∧ rowD k < n ∧ ∀ H1, Same H H1 → Q (.bl true) H1
section
variable {P : Program} {w : World} {K : PySem.W.Frag} {mg : Str → Option Value} {base : Heap}
theorem form_all {f : Addr} {fd : FuncData} (F : Fun K "is_form" "is_form" s_is_form f fd) (W : SelfD K mg f fd "is_form" ["words"]) (z_len : mg "len" = none) (z_all : mg "all" = none) (D_number_in : Dn P w K mg base CX0 2 "number_in" ["text", "low", "high"] (spNumIn K)) (D_is_name : Dn P w K mg base CX0 2 "is_name" ["thing"] (spIsName K)) : ∀ n, FnOk P w K mg base CX0 (n + 3) f fd ["words"] (spForm n)
  | 0 => by
    refine F.ok sc_is_form (fun vs H Q E h => ?_) (fun cdv A outer s H vs Q E hr h => ?_) <;> obtain ⟨l, k, T, rfl, _, _, _, h, _⟩ := h <;> exact absurd h (Nat.not_lt_zero _)
  | n + 1 => by
    have D_is_form := W.dn (form_all F W z_len z_all D_number_in D_is_name n)
    refine F.ok sc_is_form (fun vs H Q E h => ?_) (fun cdv A outer s H vs Q E hr h => ?_)
    · obtain ⟨l, k, T, rfl, _⟩ := h
      rfl
    · obtain ⟨l, k, T, rfl, hl, hw, hk, hd, q⟩ := h
      refine ⟨_, (pss_cons (ps_if (pt_cmpR (op_eqDK hr.units (K := K)) (pe_slice (sl_listK (K := K)) (pv 0) po_none (po_some pe_int)) (pe_lst (pa_cons pe_str pa_nil)) (nomark _)) (pss_cons (ps_set (i := 1) sc_is_form.nd rfl (by first | exact Or.inl rfl | exact Or.inr rfl) (pe_slice (sl_listK (K := K)) (pv 0) (po_some pe_int) po_none))
      (pss_cons (ps_if (pt_cmpR op_isN (pe_cd D_number_in (hr.mono (by first | decide | omega)) (by rfl) pass0 (pa_cons (pe_bmK (K := K) PySem.F.plainAttrs_str PySem.F.slot_str_join PySem.F.type_str_join (mt_joinS (K := K)) pe_str (pa_cons (pe_slice (sl_listK (K := K)) (pv 0) (po_some pe_int) (po_some pe_int)) pa_nil)) (pa_cons pe_int (pa_cons pe_int pa_nil)))) pe_non (nomark _)) (pss_one (ps_ret pe_bl)) pss_nil)
      (pss_one (ps_ret (pe_and (pe_cmpR (op_notInT (room65 hr) (K := K)) (pe_slice (sl_listK (K := K)) (pv 1) po_none (po_some pe_int)) (pe_tup (pa_cons (pe_lst (pa_cons pe_str pa_nil)) (pa_cons (pe_lst (pa_cons pe_str pa_nil)) pa_nil))) (by rfl)) (pe_one (pe_cd D_is_form (hr.mono (by first | decide | omega)) (by rfl) pass0 (pa_cons (pv 1) pa_nil)))))))) pss_nil)
      (pss_cons (ps_if (pt_cmpR (op_eqDK hr.units (K := K)) (pe_slice (sl_listK (K := K)) (pv 0) po_none (po_some pe_int)) (pe_lst (pa_cons pe_str pa_nil)) (nomark _)) (pss_one (ps_ret (pe_and (pe_cmpR op_eq (pe_callB (call_lenR (K := K)) (by rfl) z_len (by decide +kernel) (pa_cons (pv 0) pa_nil)) pe_int (nomark _)) (pe_one (pe_cmpR op_notN (pe_cd D_number_in (hr.mono (by first | decide | omega)) (by rfl) pass0 (pa_cons (pe_ix (ix_listK (K := K)) (pv 0) pe_int (fun _ _ => rfl)) (pa_cons pe_int (pa_cons pe_int pa_nil)))) pe_non (nomark _)))))) pss_nil)
      (pss_cons (ps_if (pt_cmpR (op_eqDK hr.units (K := K)) (pe_slice (sl_listK (K := K)) (pv 0) po_none (po_some pe_int)) (pe_lst (pa_cons pe_str pa_nil)) (nomark _)) (pss_one (ps_ret (pe_and (pe_chain op_le op_le pe_int (pe_callB (call_lenR (K := K)) (by rfl) z_len (by decide +kernel) (pa_cons (pv 0) pa_nil)) pe_int) (pe_one (pe_callB (cr_allK rfl (K := K)) (by rfl) z_all (by decide +kernel) (pa_cons (pe_lc (own := [("word", 2)]) (g := gName 2) (tt := tYes) rfl sc_is_form.nd (pi_listK (pe_slice (sl_listK (K := K)) (pv 0) (po_some pe_int) po_none) (K := K)) (blkOk_by (own := [("word", 2)]) (N := ["words", "rest", "word"]) (sc := defScope s_is_form) (by decide +kernel)) (fun _ _ _ _ _ => pg_name (i := 2) sc_is_form.nd rfl (Or.inl rfl)) (fun _ _ _ _ _ => pts_nil) (fun _ _ _ _ _ => (pe_cd D_is_name (hr.mono (by first | decide | omega)) (by rfl) pass0 (pa_cons (pv 2) pa_nil)))) pa_nil)))))) pss_nil)
      (pss_one (ps_ret (pe_and (pe_cmpR op_eq (pe_callB (call_lenR (K := K)) (by rfl) z_len (by decide +kernel) (pa_cons (pv 0) pa_nil)) pe_int (nomark _)) (pe_one (pe_cd D_is_name (hr.mono (by first | decide | omega)) (by rfl) pass0 (pa_cons (pe_ix (ix_listK (K := K)) (pv 0) pe_int (fun _ _ => rfl)) pa_nil))))))))), ?_⟩
      walk_at "rd"
      have nf : ∀ {a b : List Nat} {r : List (List Nat)} {A B : Prop}, a ≠ b → B → if decide ((a :: r).take 1 = [b]) = true then A else B := fun {a b r A B} h q => by
        refine iteN (fun e => h ?_) q
        have e := of_decide_eq_true e
        exact (List.cons.inj e).1
      have yf : ∀ {a : List Nat} {r : List (List Nat)} {A B : Prop}, A → if decide ((a :: r).take 1 = [a]) = true then A else B := fun q => iteP (decide_eq_true rfl) q
      have aw := asc_words hw (Nat.le_refl _) hk
      have a1 : ∀ c ∈ rowW, c < 128 := by decide
      have a2 : ∀ c ∈ numW, c < 128 := by decide
      have a3 : ∀ c ∈ pickW', c < 128 := by decide
      cases k with
      | num x =>
        have hx := hk.2
        refine test1 aw a1 hl e_row fun H1 s1 => nf (by decide) (test1 aw a2 (s1 _ _ hl) e_num fun H2 s2 => yf ?_)
        have h2 := s2 _ _ (s1 _ _ hl)
        refine ⟨_, .inl (seq_of h2), iteP rfl ⟨_, seq_of h2, _, rfl, _, "str", 1, 4, rfl, .str _, fun z e => ?_, ?_⟩⟩
        · cases e
          rw [S_len]
          have := numL_3 (i := x) (by omega)
          omega
        · rw [num_within (by omega) (by have := hk.1; omega) (by omega)]
          exact q H2 (s1.trans s2)
      | row m k =>
        refine test1 aw a1 hl e_row fun H1 s1 => yf ?_
        have h1 := s1 _ _ hl
        refine ⟨_, seq_of h1, New.intro fun r H2 n2 s2 g2 => ⟨rfl, _, seq_of (s2 _ _ h1), New.intro fun u H3 n3 s3 g3 => ?_⟩⟩
        rw [show (some (2 : Int)) = some ((2 : Nat) : Int) from rfl, cut_fromW] at g2
        rw [show (some (2 : Int)) = some ((2 : Nat) : Int) from rfl, show (some (1 : Int)) = some ((1 : Nat) : Int) from rfl, cut_midW] at g3
        have g2 : H2 r = some (.lst (wds (wordsK T k))) := g2
        have g3 : H3 u = some (.lst (wds [TL.numL m])) := g3
        have hm := hk.2.1
        have h3 := numL_3 (i := m) (by omega)
        refine ⟨[], e_nix, _, .inl (seq_of g3), by simp; omega, _, "str", 1, 6, rfl, .str _, fun z e => ?_, ?_⟩
        · cases e
          rw [S_len]
          show (TL.numL m).length ≤ 1000
          omega
        · rw [show TL.joinL [] [TL.numL m] = TL.numL m from rfl, num_within (by omega) (by have := hk.1; omega) (by omega)]
          refine iteN (fun e => by cases e) ⟨_, seq_of (s3 _ _ g2), New.intro fun p3 H4 n4 s4 g4 => ⟨by decide, New.intro fun p4 H5 n5 s5 g5 => ⟨by decide, New.intro fun p5 H6 n6 s6 g6 => ⟨by decide, New.intro fun p6 H7 n7 s7 g7 => ?_⟩⟩⟩⟩
          rw [show (some (1 : Int)) = some ((1 : Nat) : Int) from rfl, cut_toW] at g4
          rw [one_wds rowW e_row] at g5
          rw [one_wds pickW' e_pick] at g6
          have hkk : KOk T.length k := by
            rcases hk.2.2 with ⟨w', rfl, h4, h5⟩ | ⟨i, rfl, hi⟩
            · exact ⟨h4, h5⟩
            · exact hi
          obtain ⟨a, b, ew, na, nb⟩ : ∃ a b, wordsK T k = a :: b ∧ a ≠ rowW ∧ a ≠ pickW' := by
            rcases hk.2.2 with ⟨w', rfl, h4, h5⟩ | ⟨i, rfl, hi⟩
            · exact ⟨_, _, rfl, by decide, by decide⟩
            · obtain ⟨h6, h7, h8, h9⟩ := name_not (wf_name hw hi)
              exact ⟨_, _, rfl, h7, h8⟩
          rw [ew] at g4
          have g4' := (s5.trans (s6.trans s7)) _ _ g4
          have g5' := (s6.trans s7) _ _ g5
          have g6' := s7 _ _ g6
          have ak : AscW ((a :: b).take 1) := asc_take (ew ▸ asc_words hw (Nat.le_refl _) hkk) 1
          refine ⟨_, dp_lst (seq_of g4') (wds_pd ak), [.list ((wds [rowW]).map pd), .list ((wds [pickW']).map pd)], .tup (seqT_of g7) (.cons (dp_lst (seq_of g5') (wds_pd (asc1 a1))) (.cons (dp_lst (seq_of g6') (wds_pd (asc1 a3))) .nil)), shaped_lst (wds_pd ak), by decide +kernel, iteP ?_ ?_⟩
          · have e1 : PyData.eqv (.list ((wds [rowW]).map pd)) (.list ((wds ((a :: b).take 1)).map pd)) = decide ([rowW] = (a :: b).take 1) := eqvAll_wds _ _
            have e2 : PyData.eqv (.list ((wds [pickW']).map pd)) (.list ((wds ((a :: b).take 1)).map pd)) = decide ([pickW'] = (a :: b).take 1) := eqvAll_wds _ _
            show (PyData.eqv (.list ((wds [rowW]).map pd)) (.list ((wds ((a :: b).take 1)).map pd)) || (PyData.eqv (.list ((wds [pickW']).map pd)) (.list ((wds ((a :: b).take 1)).map pd)) || false)) = false
            have n1 : ¬ ([rowW] = (a :: b).take 1) := fun e => na (List.cons.inj e).1.symm
            have n2 : ¬ ([pickW'] = (a :: b).take 1) := fun e => nb (List.cons.inj e).1.symm
            rw [e1, e2, decide_eq_false n1, decide_eq_false n2]
            rfl
          · have s37 := s3.trans (s4.trans (s5.trans (s6.trans s7)))
            refine ⟨r, k, T, rfl, s37 _ _ g2, hw, hkk, ?_, fun H8 s8 => q H8 (s1.trans (s2.trans (s37.trans s8)))⟩
            have : rowD k + 1 < n + 1 := hd
            omega
      | pick is =>
        have hlen : is.length + 1 = (wordsK T (.pick is)).length := by
          show _ = (pickW' :: is.map (nameT T)).length
          rw [List.length_cons, List.length_map]
        have h3 : (wds (wordsK T (.pick is))).length = is.length + 1 := by rw [wds_len, hlen]
        have := hk.1
        have := hk.2.1
        refine test1 aw a1 hl e_row fun H1 s1 => nf (by decide) (test1 aw a2 (s1 _ _ hl) e_num fun H2 s2 => nf (by decide) (test1 aw a3 (s2 _ _ (s1 _ _ hl)) e_pick fun H3 s3 => yf ?_))
        have g3 := s3 _ _ (s2 _ _ (s1 _ _ hl))
        refine ⟨_, .inl (seq_of g3), ?_⟩
        rw [h3]
        refine iteP (by omega) (iteP (by omega) ⟨_, seq_of g3, New.intro fun p H4 n4 s4 g4 => ?_⟩)
        rw [show (some (1 : Int)) = some ((1 : Nat) : Int) from rfl, cut_fromW] at g4
        have g4 : H4 p = some (.lst (wds (is.map (nameT T)))) := g4
        refine ⟨⟨_, seq_of g4⟩, Cmp.pureD is (fun _ => V.bl true) (seq_of g4) (by rw [wds_len, List.length_map]) (by rw [wds_len, List.length_map]; omega) (fun j x d H5 R hx hd' s5 r => ?_) (fun l2 H5 n5 s5 g5 => ?_)⟩
        · have hx' : x = .str (S (nameT T d)) := by
            unfold wds at hx
            rw [List.getElem?_map, List.getElem?_map, hd'] at hx
            exact (Option.some.inj hx).symm
          subst hx'
          refine ⟨rfl, ?_⟩
          walk_at "rd"
          have hn := wf_name hw (hk.2.2.2 d (List.mem_of_getElem? hd'))
          have hnl := isName_len hn
          refine ⟨_, "str", rfl, .str _, fun z e => by cases e; rw [S_len]; omega, ?_⟩
          have : nameV (.str (S (nameT T d))) = true := hn
          rw [this]
          exact r H5 (Same.refl H5)
        · refine ⟨l2, rfl, is.map (fun _ => true), by rw [List.map_map]; exact seq_of g5, ?_⟩
          rw [all_true]
          exact q H5 (s1.trans (s2.trans (s3.trans (s4.trans s5))))
      | shp i =>
        have hn := wf_name hw hk
        obtain ⟨h6, h7, h8, h9⟩ := name_not hn
        have hnl := isName_len hn
        refine test1 aw a1 hl e_row fun H1 s1 => nf h7 (test1 aw a2 (s1 _ _ hl) e_num fun H2 s2 => nf h6 (test1 aw a3 (s2 _ _ (s1 _ _ hl)) e_pick fun H3 s3 => nf h8 ?_))
        have g3 := s3 _ _ (s2 _ _ (s1 _ _ hl))
        refine ⟨_, .inl (seq_of g3), iteP rfl ⟨_, seq_of g3, _, rfl, _, "str", rfl, .str _, fun z e => by cases e; rw [S_len]; omega, ?_⟩⟩
        have : nameV (.str (S (nameT T i))) = true := hn
        rw [this]
        exact q H3 (s1.trans (s2.trans s3))
theorem ok_form {f : Addr} {fd : FuncData} (F : Fun K "is_form" "is_form" s_is_form f fd) (W_is_form : SelfD K mg f fd "is_form" ["words"]) (z_len : mg "len" = none) (z_all : mg "all" = none) (D_number_in : Dn P w K mg base CX0 2 "number_in" ["text", "low", "high"] (spNumIn K)) (D_is_name : Dn P w K mg base CX0 2 "is_name" ["thing"] (spIsName K)) : FnOk P w K mg base CX0 8 f fd ["words"] (spForm 5) := by
  exact form_all F W_is_form z_len z_all D_number_in D_is_name 5
end

end K10

set_option Elab.async false
set_option linter.all false
set_option pp.deepTerms true
set_option pp.maxSteps 100000
set_option format.indent 1
set_option format.width 260
set_option maxRecDepth 100000
set_option maxHeartbeats 4000000
set_option exponentiation.threshold 2000
namespace K10
open PySem PySem.Spec PyProof.Rows L2 Rb Rx SX Tx Rg Rt Rs
local macro_rules | `(tactic| walk_at "rd") => `(tactic| simp only [L2.start, wMix, rRepr, rIsX, rIsXT, gSlAll, rEqS, rNeL, rNeV, rMulS, rEqL, rNotInT, rMax, tMethV, tListVals, tDGet, iEnum, tDIn, tDNotIn, sDPut, cxOf, tSeq, tAsg, tIfS, tTest, tB, tOp, tUn, tVar, tC, tCB, tCons, tNil, tRet, tRetN, tNext, tDrop, tBM, tBM0, tLst_n, tTup_n, tAnd, tOr, tNot, tAndV, tOrV, tNotV, tIf, tChain, tCall, gName, gTup, gCons, gNil, gUnl, gSub, rI, rI0, rU, rIxL, rIxT, rSlL_n, tSl, tPart, tNoPart, rCatR, rAppend_n, rExtend_n, rPop_n, rClear_n, rSetL_n, rInsert, rRemI_n, tMake_n, sFld_n, tFld, tMeth, rIn, tFor_n, tLc_n, iRngL1, iRngL2, iList, iTup, iRev, iZip, rDivmod, rListOf, rTupOf, rLenSeq, rMin2, rMax2, rAll, rAny, rIsi, tNever, tYes, wipe, tAug, ipI, rEq, rNe, tIsN, tNotN, tDNewK_n, tRz, tCallS, tMethX, tMakeX, tXfA, wAs, wOnly, tVeI, tOst, gSlS, iRng3, rSum, rStrI, rIsB, rNotB, rSlT, rIndex, rRep_n, rInt1, tLenSetS, scal_ii, scal_bb, scal_ss, scal_nn, scal_ni, scal_in, scal_ns, scal_sn, scal_is, scal_si, List.map_cons, List.map_nil, List.length_cons, List.length_nil, List.replicate, List.nil_append, List.cons_append, List.append_nil, List.getElem?_cons_zero, List.getElem?_cons_succ, List.set_cons_zero, List.set_cons_succ, List.set_nil, Nat.reduceAdd, Nat.reduceSub, Option.some.injEq, V.int.injEq, V.ref.injEq, V.bl.injEq, V.str.injEq, V.ty.injEq, List.cons.injEq, and_assoc, and_true, true_and, exists_eq_left, exists_eq_left', exists_and_left, exists_and_right, exists_eq, exists_eq', exists_eq_right, exists_eq_right', if_true, if_false, Bool.false_eq_true, Bool.not_true, Bool.not_false, if_pos, Int.toNat_natCast, decide_eq_true_eq, Bool.not_eq_true', decide_eq_false_iff_not, reduceCtorEq, false_and, and_false, exists_false, exists_const, rIxS, C8.rSlX, rJoinS, rSplitS, tBMS, rIndexX, iStr, tDisp, tPairs])
local macro_rules | `(tactic| walk_at "ex") => `(tactic| repeat' (first | assumption | (with_reducible refine Exists.intro _ ?_) | (with_reducible refine And.intro ?_ ?_) | rfl))

/-! ### class Draft -/
def knownL (T : Tb) (ss : List Addr) : List (Key × V) := (T.zip ss).map fun p => ((Sum.inr (SX.S p.1.1) : Key), V.ref p.2)
theorem known_len {T : Tb} {ss : List Addr} (h : ss.length = T.length) : (knownL T ss).length = T.length := by
  unfold knownL
  rw [List.length_map, List.length_zip, h, Nat.min_self]
theorem known_vals : ∀ {T : Tb} {ss : List Addr}, ss.length = T.length → (knownL T ss).map (·.2) = ss.map V.ref
  | [], [], _ => rfl
  | [], _ :: _, h => by simp at h
  | _ :: _, [], h => by simp at h
  | c :: T, s :: ss, h => by
    show V.ref s :: (knownL T ss).map (·.2) = V.ref s :: ss.map V.ref
    rw [known_vals (by simpa using h)]
theorem known_snoc {T : Tb} {ss : List Addr} {c : List Nat × Fl} {s : Addr} (h : ss.length = T.length) : knownL (T ++ [c]) (ss ++ [s]) = knownL T ss ++ [((Sum.inr (SX.S c.1) : Key), V.ref s)] := by
  unfold knownL
  rw [List.zip_append h.symm, List.map_append]
  rfl
theorem known_none {n : List Nat} : ∀ {T : Tb} {ss : List Addr}, n ∉ T.map (·.1) → valV (knownL T ss) (Sum.inr (SX.S n)) = none
  | [], _, _ => rfl
  | _ :: _, [], _ => rfl
  | c :: T, s :: ss, h => by
    rw [List.map_cons, List.mem_cons] at h
    show valV (((Sum.inr (SX.S c.1) : Key), V.ref s) :: knownL T ss) _ = none
    rw [valV_neg (fun e => h (.inl (S_inj (Sum.inr.inj e)).symm)), known_none fun m => h (.inr m)]
theorem known_get : ∀ {T : Tb} {ss : List Addr} {i : Nat} {c : List Nat × Fl} {s : Addr}, (T.map (·.1)).Nodup → T[i]? = some c → ss[i]? = some s → valV (knownL T ss) (Sum.inr (SX.S c.1)) = some (.ref s)
  | [], _, _, _, _, _, h, _ => by simp at h
  | _ :: _, [], _, _, _, _, _, h => by simp at h
  | c :: T, s :: ss, 0, _, _, nd, h1, h2 => by
    cases h1
    cases h2
    exact valV_pos rfl
  | c :: T, s :: ss, i + 1, c', s', nd, h1, h2 => by
    rw [List.map_cons, List.nodup_cons] at nd
    rw [List.getElem?_cons_succ] at h1 h2
    have m : c'.1 ∈ T.map (·.1) := List.mem_map.mpr ⟨c', List.mem_of_getElem? h1, rfl⟩
    show valV (((Sum.inr (SX.S c.1) : Key), V.ref s) :: knownL T ss) _ = _
    rw [valV_neg (p := ((Sum.inr (SX.S c.1) : Key), V.ref s)) (fun (e : (Sum.inr (SX.S c.1) : Key) = Sum.inr (SX.S c'.1)) => nd.1 ((S_inj (Sum.inr.inj e)) ▸ m)), known_get nd.2 h1 h2]
theorem names_inj {T : Tb} (nd : (T.map (·.1)).Nodup) {i j : Nat} (hi : i < T.length) (hj : j < T.length) (e : nameT T i = nameT T j) : i = j := by
  have e1 : (T.map (·.1))[i]? = some (nameT T i) := by
    rw [List.getElem?_map, List.getElem?_eq_getElem hi, name_at (List.getElem?_eq_getElem hi)]
    rfl
  have e2 : (T.map (·.1))[j]? = some (nameT T j) := by
    rw [List.getElem?_map, List.getElem?_eq_getElem hj, name_at (List.getElem?_eq_getElem hj)]
    rfl
  rw [e] at e1
  exact nd_ix nd e1 e2
theorem known_at {T : Tb} {ss : List Addr} {i : Nat} (nd : (T.map (·.1)).Nodup) (hss : ss.length = T.length) (hi : i < T.length) : ∃ s, ss[i]? = some s ∧ valV (knownL T ss) (Sum.inr (SX.S (nameT T i))) = some (.ref s) := by
  have e := List.getElem?_eq_getElem hi
  have hs : i < ss.length := by omega
  refine ⟨_, List.getElem?_eq_getElem hs, ?_⟩
  rw [name_at e]
  exact known_get nd e (List.getElem?_eq_getElem hs)
/-- the kinds that name shapes: their first word, their shapes -/
def Names (T : Tb) (k : Kd) (ids : List Nat) (fw : List Nat) : Prop := ids.Nodup ∧ (∀ i ∈ ids, i < T.length) ∧ ids ≠ [] ∧ ids.length ≤ 100 ∧ fw ≠ numW ∧ fw ≠ rowW ∧ (∃ r, wordsK T k = fw :: r) ∧ ((fw = pickW' ∧ k = .pick ids ∧ wordsK T k = pickW' :: ids.map (nameT T)) ∨ (fw ≠ pickW' ∧ ∃ i, ids = [i] ∧ k = .shp i ∧ wordsK T k = ids.map (nameT T)))
theorem kinds3 {T : Tb} {k : Kd} (w : WfT T) (hk : KOk T.length k) : (∃ x, k = .num x ∧ 1 ≤ x ∧ x ≤ 4) ∨ (∃ m k', k = .row m k' ∧ 1 ≤ m ∧ m ≤ 6 ∧ KOk T.length k') ∨ ∃ ids fw, Names T k ids fw := by
  cases k with
  | num x => exact .inl ⟨x, rfl, hk⟩
  | row m k =>
    refine .inr (.inl ⟨m, k, rfl, hk.1, hk.2.1, ?_⟩)
    rcases hk.2.2 with ⟨w', rfl, h4, h5⟩ | ⟨i, rfl, hi⟩
    · exact ⟨h4, h5⟩
    · exact hi
  | pick is => exact .inr (.inr ⟨is, pickW', hk.2.2.1, hk.2.2.2, fun e => by have := hk.1; rw [e] at this; exact absurd this (by decide), by have := hk.2.1; omega, by decide, by decide, ⟨_, rfl⟩, .inl ⟨rfl, rfl, rfl⟩⟩)
  | shp i =>
    obtain ⟨h6, h7, h8, h9⟩ := name_not (wf_name w hk)
    exact .inr (.inr ⟨[i], nameT T i, List.nodup_cons.mpr ⟨List.not_mem_nil, List.nodup_nil⟩, fun j hj => by rw [List.mem_singleton.mp hj]; exact hk, List.cons_ne_nil _ _, by simp, h6, h7, ⟨_, rfl⟩, .inr ⟨h8, i, rfl, rfl, rfl⟩⟩)
theorem int_read (w : Nat) (h : w ≤ 1000) : intText? (S (TL.numL w)) = some (w : Int) := by
  have := TL.int_num (n := w) (by have := numL_3 h; omega)
  rw [num_S] at this
  exact this
theorem sne {a b : List Nat} {z : Str} (hz : z = S b) (h : a ≠ b) : ¬ V.str (S a) = V.str z := fun e => h (S_inj (by rw [← hz]; exact V.str.inj e))
def DO (CD : Addr) (H : Hp) (p kd fl : Addr) (b : List Nat) : Prop := ∃ dx, H p = some (.ins CD dx [(Str.ofString "known", .ref kd), (Str.ofString "fields", .ref fl), (Str.ofString "begun", .str (SX.S b))])
theorem DO.same {CD : Addr} {H H1 : Hp} {p kd fl : Addr} {b : List Nat} (h : DO CD H p kd fl b) (s : Same H H1) : DO CD H1 p kd fl b := let ⟨dx, h⟩ := h; ⟨dx, s _ _ h⟩
theorem ldk {x y z : V} : List.lookup (Str.ofString "known") ([(Str.ofString "known", x), (Str.ofString "fields", y), (Str.ofString "begun", z)] : List (Str × V)) = some x := lk0
theorem ldf {x y z : V} : List.lookup (Str.ofString "fields") ([(Str.ofString "known", x), (Str.ofString "fields", y), (Str.ofString "begun", z)] : List (Str × V)) = some y := lk1 (by decide +kernel) lk0
theorem ldb {x y z : V} : List.lookup (Str.ofString "begun") ([(Str.ofString "known", x), (Str.ofString "fields", y), (Str.ofString "begun", z)] : List (Str × V)) = some z := lk1 (by decide +kernel) (lk1 (by decide +kernel) lk0)
theorem ldno {x y z : V} {m : Str} (h1 : (m == Str.ofString "known") = false) (h2 : (m == Str.ofString "fields") = false) (h3 : (m == Str.ofString "begun") = false) : List.lookup m ([(Str.ofString "known", x), (Str.ofString "fields", y), (Str.ofString "begun", z)] : List (Str × V)) = none := lk1 h1 (lk1 h2 (lk1 h3 rfl))
theorem pdf {x y z u : V} : putF (Str.ofString "fields") u [(Str.ofString "known", x), (Str.ofString "fields", y), (Str.ofString "begun", z)] = [(Str.ofString "known", x), (Str.ofString "fields", u), (Str.ofString "begun", z)] := by
  rw [putF1 (by decide +kernel), putF0]
theorem pdb {x y z u : V} : putF (Str.ofString "begun") u [(Str.ofString "known", x), (Str.ofString "fields", y), (Str.ofString "begun", z)] = [(Str.ofString "known", x), (Str.ofString "fields", y), (Str.ofString "begun", u)] := by
  rw [putF1 (by decide +kernel), putF1 (by decide +kernel), putF0]
def spKindIn (C : KC) (CD : Addr) (n : Nat) : Sp := fun vs H Q _ => ∃ (p kd fl l : Addr) (b : List Nat) (ln : Int) (k : Kd) (T : Tb) (ss : List Addr), vs = [.ref p, .int ln, .ref l] ∧ DO CD H p kd fl b ∧ H kd = some (.dK (knownL T ss)) ∧ ss.length = T.length ∧ WfT T ∧ (T.map (·.1)).Nodup ∧ KOk T.length k ∧ rowD k < n ∧ H l = some (.lst (wds (wordsK T k))) ∧ ∀ a H1, Same H H1 → KA C ss H1 k a → Q (.ref a) H1
section
variable {P : Program} {w : World} {K : PySem.W.Frag} {mg : Str → Option Value} {base : Heap}
theorem kindIn_all {f C_Num C_Nested C_Many C_Pick C_Shape C_Draft : Addr} {fd : FuncData} (F : Fun K "kind_in" "Draft.kind_in" s_Draft_kind_in f fd) (W : MethF K C_Draft "kind_in" f fd ["self", "line", "words"]) (z_int : mg "int" = none) (z_enumerate : mg "enumerate" = none) (A_Draft_known : NoAttr K C_Draft "known")
    (M_Num : Mn P w K mg base CX0 1 C_Num "Num" ["self", "width"] (spNumI C_Num)) (M_Nested : Mn P w K mg base CX0 1 C_Nested "Nested" ["self", "shape"] (spNestedI C_Nested)) (M_Many : Mn P w K mg base CX0 1 C_Many "Many" ["self", "count", "kind"] (spManyI C_Many)) (M_Pick : Mn P w K mg base CX0 1 C_Pick "Pick" ["self", "shapes"] (spTupI K C_Pick)) : ∀ n, FnOk P w K mg base CX0 (n + 3) f fd ["self", "line", "words"] (spKindIn ⟨C_Num, C_Nested, C_Many, C_Pick, C_Shape⟩ C_Draft n)
  | 0 => by
    refine F.ok sc_Draft_kind_in (fun vs H Q E h => ?_) (fun cdv A outer s H vs Q E hr h => ?_) <;> obtain ⟨p, kd, fl, l, b, ln, k, T, ss, rfl, _, _, _, _, _, _, h, _⟩ := h <;> exact absurd h (Nat.not_lt_zero _)
  | n + 1 => by
    have N_Draft_kind_in := W.nn (kindIn_all (C_Shape := C_Shape) F W z_int z_enumerate A_Draft_known M_Num M_Nested M_Many M_Pick n)
    have K_Draft := W.cl
    refine F.ok sc_Draft_kind_in (fun vs H Q E h => ?_) (fun cdv A outer s H vs Q E hr h => ?_)
    · obtain ⟨p, kd, fl, l, b, ln, k, T, ss, rfl, _⟩ := h
      rfl
    · obtain ⟨p, kd, fl, l, b, ln, k, T, ss, rfl, hp, hkd, hss, hw, hnd, hk, hd, hl, q⟩ := h
      refine ⟨_, (pss_cons (ps_if (pt_cmpR op_eq (pe_ix (ix_listK (K := K)) (pv 2) pe_int (fun _ _ => rfl)) pe_str (nomark _)) (pss_one (ps_ret (pe_mk M_Num (hr.mono (by first | decide | omega)) (by rfl) pass0 (pa_cons (pe_callTy call_int_str (by rfl) z_int (by decide +kernel) (pa_cons (pe_ix (ix_listK (K := K)) (pv 2) pe_int (fun _ _ => rfl)) pa_nil)) pa_nil)))) pss_nil)
      (pss_cons (ps_if (pt_cmpR op_eq (pe_ix (ix_listK (K := K)) (pv 2) pe_int (fun _ _ => rfl)) pe_str (nomark _)) (pss_one (ps_ret (pe_mk M_Many (hr.mono (by first | decide | omega)) (by rfl) pass0 (pa_cons (pe_callTy call_int_str (by rfl) z_int (by decide +kernel) (pa_cons (pe_ix (ix_listK (K := K)) (pv 2) pe_int (fun _ _ => rfl)) pa_nil)) (pa_cons (pe_md (pv 0) N_Draft_kind_in (hr.mono (by first | decide | omega)) pass0 (pa_cons (pv 1) (pa_cons (pe_slice (sl_listK (K := K)) (pv 2) (po_some pe_int) po_none) pa_nil))) pa_nil))))) pss_nil)
      (pss_cons (ps_set (i := 3) sc_Draft_kind_in.nd rfl (by first | exact Or.inl rfl | exact Or.inr rfl) (pe_slice (sl_listK (K := K)) (pv 2) (po_some (pe_callTy call_int1R (by rfl) z_int (by decide +kernel) (pa_cons (pe_cmpR op_eq (pe_ix (ix_listK (K := K)) (pv 2) pe_int (fun _ _ => rfl)) pe_str (nomark _)) pa_nil))) po_none))
      (pss_cons (ps_for PassesOwn.never rfl (pi_enumK (by rfl) z_enumerate (pa_cons (pv 3) pa_nil) (K := K)) (pg_tup rfl (pgs_cons (pg_name (i := 4) sc_Draft_kind_in.nd rfl (by first | exact Or.inl rfl | exact Or.inr rfl)) (pgs_cons (pg_name (i := 5) sc_Draft_kind_in.nd rfl (by first | exact Or.inl rfl | exact Or.inr rfl)) pgs_nil))) (pss_one (ps_if (pt_cmpR (op_in_seqK (K := K)) (pv 5) (pe_slice (sl_listK (K := K)) (pv 3) po_none (po_some (pv 4))) (by rfl)) (pss_one ps_never) pss_nil)))
      (pss_cons (ps_for PassesOwn.never rfl (pi_listK (pv 3) (K := K)) (pg_name (i := 5) sc_Draft_kind_in.nd rfl (by first | exact Or.inl rfl | exact Or.inr rfl)) (pss_one (ps_if (pt_cmp (pc_dnotin (hu_of hr) (pv 5) (pe_fldK (pv 0) rfl (K := K))) (by rfl)) (pss_one ps_never) pss_nil)))
      (pss_cons (ps_if (pt_cmpR op_eq (pe_ix (ix_listK (K := K)) (pv 2) pe_int (fun _ _ => rfl)) pe_str (nomark _)) (pss_one (ps_ret (pe_mk M_Pick (hr.mono (by first | decide | omega)) (by rfl) pass0 (pa_cons (pe_lc (own := [("name", 5)]) (g := gName 5) (tt := tYes) rfl sc_Draft_kind_in.nd (pi_listK (pv 3) (K := K)) (blkOk_by (own := [("name", 5)]) (N := ["self", "line", "words", "names", "at", "name"]) (sc := defScope s_Draft_kind_in) (by decide +kernel)) (fun _ _ _ _ _ => pg_name (i := 5) sc_Draft_kind_in.nd rfl (Or.inl rfl)) (fun _ _ _ _ _ => pts_nil) (fun _ _ _ _ _ => (pe_dget (hu_of hr) (pe_fldK (pv 0) rfl (K := K)) (pv 5) (fun _ _ => rfl)))) pa_nil)))) pss_nil)
      (pss_one (ps_ret (pe_mk M_Nested (hr.mono (by first | decide | omega)) (by rfl) pass0 (pa_cons (pe_dget (hu_of hr) (pe_fldK (pv 0) rfl (K := K)) (pe_ix (ix_listK (K := K)) (pv 3) pe_int (fun _ _ => rfl)) (fun _ _ => rfl)) pa_nil)))))))))), ?_⟩
      walk_at "rd"
      rcases kinds3 hw hk with ⟨x, rfl, x1, x2⟩ | ⟨m, k, rfl, m1, m2, hkk⟩ | ⟨ids, fw, nm⟩
      · refine ⟨_, seq_of hl, _, rfl, rfl, iteP (by rw [e_num]) ⟨_, seq_of hl, _, rfl, _, rfl, _, int_read x (by omega), by rw [S_len]; have := numL_3 (i := x) (by omega); omega, ?_⟩⟩
        exact Made.intro fun a dx H1 na s1 h1 => ⟨a, dx, _, rfl, h1, fun H2 o2 h2 => ⟨rfl, q a H2 (Same.off s1 na o2) ⟨dx, h2⟩⟩⟩
      · obtain ⟨dxp, hp1⟩ := id hp
        have hd : rowD k + 1 < n + 1 := hd
        refine ⟨_, seq_of hl, .str (S rowW), atI_nat (j := 0) rfl, rfl, iteN (sne (a := rowW) e_num (by decide)) ⟨_, seq_of hl, .str (S rowW), atI_nat (j := 0) rfl, rfl, iteP (by rw [e_row]) ⟨_, seq_of hl, .str (S (TL.numL m)), atI_nat (j := 1) rfl, _, rfl, _, int_read m (by omega), by rw [S_len]; have := numL_3 (i := m) (by omega); omega, _, _, hp1, ldno (by decide +kernel) (by decide +kernel) (by decide +kernel), _, seq_of hl, New.intro fun r H1 nr s1 g1 => ?_⟩⟩⟩
        rw [show (some (2 : Int)) = some ((2 : Nat) : Int) from rfl, cut_fromW] at g1
        refine ⟨p, kd, fl, r, b, ln, k, T, ss, rfl, hp.same s1, s1 _ _ hkd, hss, hw, hnd, hkk, by omega, g1, fun a H2 s2 ka => ?_⟩
        exact Made.intro fun a2 dx H3 n3 s3 h3 => ⟨a2, dx, _, _, rfl, h3, fun H4 o4 h4 => ⟨rfl, q a2 H4 (s1.trans (s2.trans (Same.off s3 n3 o4))) ⟨dx, a, h4, ka.same (Same.off s3 n3 o4)⟩⟩⟩
      · obtain ⟨nd, lt, ne, l100, f1, f2, ⟨rr, ew⟩, cs⟩ := nm
        have h0 : atI (wds (wordsK T k)) 0 = some (.str (S fw)) := by
          rw [ew]
          exact atI_nat (j := 0) rfl
        refine ⟨_, seq_of hl, _, h0, rfl, iteN (sne e_num f1) ⟨_, seq_of hl, _, h0, rfl, iteN (sne e_row f2) ⟨_, seq_of hl, _, h0, rfl, .inr ⟨_, seq_of hl, New.intro fun r H1 nr s1 g1 => ?_⟩⟩⟩⟩
        have gN : H1 r = some (.lst (wds (ids.map (nameT T)))) := by
          rw [g1]
          rcases cs with ⟨rfl, rfl, e⟩ | ⟨h8, i, rfl, rfl, e⟩
          · rw [if_pos (by rw [e_pick]), show (some (1 : Int)) = some ((1 : Nat) : Int) from rfl, cut_fromW, e]
            rfl
          · rw [if_neg (sne e_pick h8), show (some (0 : Int)) = some ((0 : Nat) : Int) from rfl, cut_fromW, e]
            rfl
        have namesNd : (ids.map (nameT T)).Nodup := nodup_map_on nd fun x hx y hy e => names_inj hnd (lt x hx) (lt y hy) e
        obtain ⟨dxp, hp1⟩ := hp.same s1
        have hkd1 := s1 _ _ hkd
        have nlen : (wds (ids.map (nameT T))).length = ids.length := by rw [wds_len, List.length_map]
        have at_ : ∀ {i : Nat} {x : V}, (wds (ids.map (nameT T)))[i]? = some x → ∃ j, ids[i]? = some j ∧ x = .str (S (nameT T j)) := fun {i x} h => by
          unfold wds at h
          rw [List.getElem?_map, List.getElem?_map] at h
          cases e : ids[i]? with
          | none =>
            rw [e] at h
            cases h
          | some j =>
            rw [e] at h
            exact ⟨j, rfl, (Option.some.inj h).symm⟩
        refine ⟨⟨_, seq_of gN⟩, Loop.enum (xs := wds (ids.map (nameT T))) (fun i σ HA => ∃ y4 y5, σ = [some (.ref p), some (.int ln), some (.ref l), some (.ref r), y4, y5] ∧ Same H1 HA) ⟨_, _, rfl, Same.refl _⟩ ?_ ?_ ?_⟩
        · rintro i σ HA _ ⟨y4, y5, rfl, sA⟩
          exact seq_of (sA _ _ gN)
        · rintro i x σ HA u HB hx ⟨y4, y5, rfl, sA⟩ nu sB gu
          obtain ⟨j, hj, rfl⟩ := at_ hx
          refine two_at gu ?_
          walk_at "rd"
          refine ⟨_, seq_of (sB _ _ (sA _ _ gN)), New.intro fun v HC nv sC gC => ?_⟩
          rw [cut_toW] at gC
          refine ⟨_, .inl (seq_of gC), rfl, flat_wds _, ?_⟩
          rw [inV_str, decide_eq_false]
          · exact sA.trans (sB.trans sC)
          · intro m
            rw [List.mem_iff_getElem?] at m
            obtain ⟨i', hi'⟩ := m
            rw [List.getElem?_take] at hi'
            split at hi'
            · rename_i h
              have e1 : (ids.map (nameT T))[i]? = some (nameT T j) := by rw [List.getElem?_map, hj]; rfl
              have := nd_ix namesNd hi' e1
              omega
            · cases hi'
        · rintro σ HA ⟨y4, y5, rfl, sA⟩
          walk_at "rd"
          have g1A := sA _ _ gN
          refine ⟨⟨_, seq_of g1A⟩, Loop.list (xs := wds (ids.map (nameT T))) (fun i σ HB => ∃ y5, σ = [some (.ref p), some (.int ln), some (.ref l), some (.ref r), y4, y5] ∧ Same H1 HB) ⟨_, rfl, sA⟩ ?_ ?_ ?_⟩
          · rintro i σ HB _ ⟨y5, rfl, sB⟩
            exact seq_of (sB _ _ gN)
          · rintro i x σ HB hx ⟨y5, rfl, sB⟩
            obtain ⟨j, hj, rfl⟩ := at_ hx
            walk_at "rd"
            obtain ⟨s', hs', kv⟩ := known_at hnd hss (lt j (List.mem_of_getElem? hj))
            refine ⟨_, _, _, sB _ _ hp1, K_Draft, A_Draft_known, _, ldk, kd, rfl, _, DGet.k (k := Sum.inr (S (nameT T j))) (sB _ _ hkd1), ?_⟩
            rw [kv]
            exact iteN (fun e => by cases e) sB
          · rintro σ HB ⟨y5, rfl, sB⟩
            walk_at "rd"
            have h0B := sB _ _ (s1 _ _ hl)
            refine ⟨_, seq_of h0B, _, h0, rfl, ?_⟩
            rcases cs with ⟨rfl, rfl, e⟩ | ⟨h8, i, rfl, rfl, e⟩
            · refine iteP (by rw [e_pick]) ⟨⟨_, seq_of (sB _ _ gN)⟩, ?_⟩
              refine Cmp.pureD ids (fun i => V.ref (ss.getD i 0)) (seq_of (sB _ _ gN)) (by rw [nlen]) (by rw [nlen]; omega) (fun j x d H2 R hx hd' s2 r' => ?_) (fun l2 H2 n2 s2 g2 => ?_)
              · obtain ⟨j', hj', rfl⟩ := at_ hx
                rw [hd'] at hj'
                obtain rfl := Option.some.inj hj'
                obtain ⟨s', hs', kv⟩ := known_at hnd hss (lt d (List.mem_of_getElem? hd'))
                refine ⟨rfl, ?_⟩
                walk_at "rd"
                refine ⟨_, _, _, s2 _ _ (sB _ _ hp1), K_Draft, A_Draft_known, _, ldk, kd, rfl, .ref s', ?_, ?_⟩
                · rw [← kv]
                  exact DGet.k (k := Sum.inr (S (nameT T d))) (s2 _ _ (sB _ _ hkd1))
                · have e : ss.getD d 0 = s' := by rw [List.getD_eq_getElem?_getD, hs']; rfl
                  rw [← e]
                  exact r' H2 (Same.refl H2)
              · refine Made.intro fun a dx H3 n3 s3 h3 => ⟨a, dx, l2, _, rfl, h3, seq_of (s3 _ _ g2), fun t H4 o4 nt ht h4 => ⟨rfl, q a H4 (s1.trans (sB.trans (s2.trans (Same.off s3 n3 o4)))) ⟨dx, t, _, h4, ht, ?_⟩⟩⟩
                have : ∀ js : List Nat, (∀ j ∈ js, j < T.length) → Paired (fun x i => ∃ s, ss[i]? = some s ∧ x = V.ref s) (js.map fun i => V.ref (ss.getD i 0)) js := fun js => by
                  induction js with
                  | nil => exact fun _ => .nil
                  | cons j r ih =>
                    intro h
                    have hj : j < ss.length := by rw [hss]; exact h j List.mem_cons_self
                    exact .cons ⟨_, List.getElem?_eq_getElem hj, by show V.ref (ss.getD j 0) = _; rw [List.getD_eq_getElem?_getD, List.getElem?_eq_getElem hj]; rfl⟩ (ih fun x hx => h x (List.mem_cons_of_mem _ hx))
                exact this ids lt
            · refine iteN (sne e_pick h8) ?_
              have hi : i < T.length := lt i List.mem_cons_self
              obtain ⟨s', hs', kv⟩ := known_at hnd hss hi
              refine ⟨_, _, _, sB _ _ hp1, K_Draft, A_Draft_known, _, ldk, _, seq_of (sB _ _ gN), .str (S (nameT T i)), atI_nat (j := 0) rfl, kd, rfl, .ref s', ?_, ?_⟩
              · rw [← kv]
                exact DGet.k (k := Sum.inr (S (nameT T i))) (sB _ _ hkd1)
              · exact Made.intro fun a dx H3 n3 s3 h3 => ⟨a, dx, _, rfl, h3, fun H4 o4 h4 => ⟨rfl, q a H4 (s1.trans (sB.trans (Same.off s3 n3 o4))) ⟨dx, s', hs', h4⟩⟩⟩
theorem ok_kindIn {f C_Num C_Nested C_Many C_Pick C_Shape C_Draft : Addr} {fd : FuncData} (F : Fun K "kind_in" "Draft.kind_in" s_Draft_kind_in f fd) (W_Draft_kind_in : MethF K C_Draft "kind_in" f fd ["self", "line", "words"]) (z_int : mg "int" = none) (z_enumerate : mg "enumerate" = none) (A_Draft_known : NoAttr K C_Draft "known")
    (M_Num : Mn P w K mg base CX0 1 C_Num "Num" ["self", "width"] (spNumI C_Num)) (M_Nested : Mn P w K mg base CX0 1 C_Nested "Nested" ["self", "shape"] (spNestedI C_Nested)) (M_Many : Mn P w K mg base CX0 1 C_Many "Many" ["self", "count", "kind"] (spManyI C_Many)) (M_Pick : Mn P w K mg base CX0 1 C_Pick "Pick" ["self", "shapes"] (spTupI K C_Pick)) : FnOk P w K mg base CX0 8 f fd ["self", "line", "words"] (spKindIn ⟨C_Num, C_Nested, C_Many, C_Pick, C_Shape⟩ C_Draft 5) := by
  exact kindIn_all F W_Draft_kind_in z_int z_enumerate A_Draft_known M_Num M_Nested M_Many M_Pick 5
end

end K10

set_option Elab.async false
set_option linter.all false
set_option pp.deepTerms true
set_option pp.maxSteps 100000
set_option format.indent 1
set_option format.width 260
set_option maxRecDepth 100000
set_option maxHeartbeats 4000000
set_option exponentiation.threshold 2000
namespace K10
open PySem PySem.Spec PyProof.Rows L2 Rb Rx SX Tx Rg Rt Rs
local macro_rules | `(tactic| walk_at "rd") => `(tactic| simp only [L2.start, wMix, rRepr, rIsX, rIsXT, gSlAll, rEqS, rNeL, rNeV, rMulS, rEqL, rNotInT, rMax, tMethV, tListVals, tDGet, iEnum, tDIn, tDNotIn, sDPut, cxOf, tSeq, tAsg, tIfS, tTest, tB, tOp, tUn, tVar, tC, tCB, tCons, tNil, tRet, tRetN, tNext, tDrop, tBM, tBM0, tLst_n, tTup_n, tAnd, tOr, tNot, tAndV, tOrV, tNotV, tIf, tChain, tCall, gName, gTup, gCons, gNil, gUnl, gSub, rI, rI0, rU, rIxL, rIxT, rSlL_n, tSl, tPart, tNoPart, rCatR, rAppend_n, rExtend_n, rPop_n, rClear_n, rSetL_n, rInsert, rRemI_n, tMake_n, sFld_n, tFld, tMeth, rIn, tFor_n, tLc_n, iRngL1, iRngL2, iList, iTup, iRev, iZip, rDivmod, rListOf, rTupOf, rLenSeq, rMin2, rMax2, rAll, rAny, rIsi, tNever, tYes, wipe, tAug, ipI, rEq, rNe, tIsN, tNotN, tDNewK_n, tRz, tCallS, tMethX, tMakeX, tXfA, wAs, wOnly, tVeI, tOst, gSlS, iRng3, rSum, rStrI, rIsB, rNotB, rSlT, rIndex, rRep_n, rInt1, tLenSetS, scal_ii, scal_bb, scal_ss, scal_nn, scal_ni, scal_in, scal_ns, scal_sn, scal_is, scal_si, List.map_cons, List.map_nil, List.length_cons, List.length_nil, List.replicate, List.nil_append, List.cons_append, List.append_nil, List.getElem?_cons_zero, List.getElem?_cons_succ, List.set_cons_zero, List.set_cons_succ, List.set_nil, Nat.reduceAdd, Nat.reduceSub, Option.some.injEq, V.int.injEq, V.ref.injEq, V.bl.injEq, V.str.injEq, V.ty.injEq, List.cons.injEq, and_assoc, and_true, true_and, exists_eq_left, exists_eq_left', exists_and_left, exists_and_right, exists_eq, exists_eq', exists_eq_right, exists_eq_right', if_true, if_false, Bool.false_eq_true, Bool.not_true, Bool.not_false, if_pos, Int.toNat_natCast, decide_eq_true_eq, Bool.not_eq_true', decide_eq_false_iff_not, reduceCtorEq, false_and, and_false, exists_false, exists_const, rIxS, C8.rSlX, rJoinS, rSplitS, tBMS, rIndexX, iStr, tDisp, tPairs])
local macro_rules | `(tactic| walk_at "ex") => `(tactic| repeat' (first | assumption | (with_reducible refine Exists.intro _ ?_) | (with_reducible refine And.intro ?_ ?_) | rfl))

/-! ### class Draft: its state -/
structure DSx (C : KC) (CD : Addr) (H : Hp) (p kd fl : Addr) (T : Tb) (ss : List Addr) (n : List Nat) (fs : Fl) : Prop where
  o : DO CD H p kd fl n
  k : H kd = some (.dK (knownL T ss))
  f : ∃ ys, H fl = some (.lst ys) ∧ FA C ss H ys fs
  t : TA C ss H T
theorem DSx.same {C : KC} {CD : Addr} {H H1 : Hp} {p kd fl : Addr} {T : Tb} {ss : List Addr} {n : List Nat} {fs : Fl} (d : DSx C CD H p kd fl T ss n fs) (s : Same H H1) : DSx C CD H1 p kd fl T ss n fs := by
  obtain ⟨ys, h1, h2⟩ := d.f
  exact ⟨d.o.same s, s _ _ d.k, ⟨ys, s _ _ h1, h2.keep (.of s)⟩, d.t.same s⟩
theorem DSx.off {C : KC} {CD t : Addr} {H H1 : Hp} {p kd fl : Addr} {T : Tb} {ss : List Addr} {n : List Nat} {fs : Fl} (d : DSx C CD H p kd fl T ss n fs) (o : Off t H H1) (n1 : p ≠ t) (n2 : kd ≠ t) (n3 : fl ≠ t) (st : Stb H H1) : DSx C CD H1 p kd fl T ss n fs := by
  obtain ⟨ys, h1, h2⟩ := d.f
  obtain ⟨dx, h3⟩ := d.o
  exact ⟨⟨dx, o _ _ n1 h3⟩, o _ _ n2 d.k, ⟨ys, o _ _ n3 h1, h2.keep st⟩, d.t.keep st⟩
theorem DSx.len {C : KC} {CD : Addr} {H : Hp} {p kd fl : Addr} {T : Tb} {ss : List Addr} {n : List Nat} {fs : Fl} (d : DSx C CD H p kd fl T ss n fs) : ss.length = T.length := Paired.length d.t
theorem DSx.apart {C : KC} {CD : Addr} {H : Hp} {p kd fl : Addr} {T : Tb} {ss : List Addr} {n : List Nat} {fs : Fl} (d : DSx C CD H p kd fl T ss n fs) : p ≠ kd ∧ p ≠ fl ∧ kd ≠ fl := by
  obtain ⟨ys, h1, _⟩ := d.f
  obtain ⟨dx, h3⟩ := d.o
  have h2 := d.k
  refine ⟨fun e => ?_, fun e => ?_, fun e => ?_⟩
  · rw [e, h2] at h3
    cases h3
  · rw [e, h1] at h3
    cases h3
  · rw [e, h1] at h2
    cases h2
theorem nst {C dx : Addr} {v : V} {r : List (Str × V)} : ¬ stab (.ins C dx ((Str.ofString "known", v) :: r)) := fun h => by
  have h2 : (Str.ofString "known" == Str.ofString "known") = false := h
  have : (Str.ofString "known" == Str.ofString "known") = true := by decide +kernel
  rw [this] at h2
  cases h2
theorem stb_draft {CD p kd fl : Addr} {n : List Nat} {H H1 : Hp} (o : Off p H H1) (d : DO CD H p kd fl n) : Stb H H1 := let ⟨_, h⟩ := d; Stb.off o h nst
theorem stb_dk {kd : Addr} {kvs : List (Key × V)} {H H1 : Hp} (o : Off kd H H1) (d : H kd = some (.dK kvs)) : Stb H H1 := Stb.off o d (fun h => h)
theorem stb_lst {l : Addr} {xs : List V} {H H1 : Hp} (o : Off l H H1) (d : H l = some (.lst xs)) : Stb H H1 := Stb.off o d (fun h => h)
theorem putk0 {x : V} : putF (Str.ofString "known") x [] = [(Str.ofString "known", x)] := rfl
theorem putk1 {x y : V} : putF (Str.ofString "fields") y [(Str.ofString "known", x)] = [(Str.ofString "known", x), (Str.ofString "fields", y)] := putF1 (by decide +kernel)
theorem putk2 {x y z : V} : putF (Str.ofString "begun") z [(Str.ofString "known", x), (Str.ofString "fields", y)] = [(Str.ofString "known", x), (Str.ofString "fields", y), (Str.ofString "begun", z)] := by
  rw [putF1 (by decide +kernel), putF1 (by decide +kernel)]
  rfl
def spDraftI (CD : Addr) : Sp := fun vs H Q _ => ∃ (p dx : Addr), vs = [.ref p] ∧ H p = some (.ins CD dx []) ∧ ∀ kd fl H1, Off p H H1 → H kd = none → H fl = none → DO CD H1 p kd fl [] → H1 kd = some (.dK []) → H1 fl = some (.lst []) → Q .non H1
def endT (T : Tb) (n : List Nat) (fs : Fl) : Tb := if n = [] then T else T ++ [(n, fs)]
def spEnd (C : KC) (CD : Addr) : Sp := fun vs H Q _ => ∃ (p kd fl : Addr) (T : Tb) (ss : List Addr) (n : List Nat) (fs : Fl), vs = [.ref p] ∧ DSx C CD H p kd fl T ss n fs ∧ T.length ≤ 100 ∧ n.length ≤ 100 ∧ n ∉ T.map (·.1) ∧ ∀ fl' ss' H1, OffS [p, kd] H H1 → H fl' = none → DSx C CD H1 p kd fl' (endT T n fs) ss' n [] → Q .non H1
def spTakeShape (C : KC) (CD : Addr) : Sp := fun vs H Q _ => ∃ (p kd fl : Addr) (T : Tb) (ss : List Addr) (n : List Nat) (fs : Fl) (m : List Nat) (ln : Int), vs = [.ref p, .int ln, .str (S m)] ∧ DSx C CD H p kd fl T ss n fs ∧ T.length ≤ 6 ∧ n.length ≤ 100 ∧ n ∉ T.map (·.1) ∧ (n = [] ∨ fs ≠ []) ∧ m ∉ (endT T n fs).map (·.1) ∧ ∀ fl' ss' H1, OffS [p, kd] H H1 → H fl' = none → DSx C CD H1 p kd fl' (endT T n fs) ss' m [] → Q .non H1
def spSU (K : PySem.W.Frag) (C : KC) : Sp := fun vs H Q _ => ∃ (s : Addr) (i : Nat) (T : Tb) (ss : List Addr), vs = [.ref s] ∧ ss[i]? = some s ∧ TA C ss H T ∧ Rk T 24 (.shp i) ∧ countK T 24 (.shp i) ≤ 100000 ∧ ∀ l H1, H l = none → Same H H1 → UnL K H1 l (unitsK T 24 (.shp i) []) → Q (.ref l) H1
def spTakeField (C : KC) (CD : Addr) : Sp := fun vs H Q _ => ∃ (p kd fl l : Addr) (T : Tb) (ss : List Addr) (n : List Nat) (fs : Fl) (f : List Nat) (k : Kd) (ln : Int), vs = [.ref p, .int ln, .ref l] ∧ DSx C CD H p kd fl T ss n fs ∧ l ≠ fl ∧ n ≠ [] ∧ n.length ≤ 100 ∧ H l = some (.lst (wds (f :: wordsK T k))) ∧ WfT T ∧ T.length < 10 ∧ (T.map (·.1)).Nodup ∧ f ∉ fs.map (·.1) ∧ SW T.length (n, fs ++ [(f, k)]) ∧ fitsB (T ++ [(n, fs ++ [(f, k)])]) = true ∧
  ∀ H1, OffS [fl] H H1 → DSx C CD H1 p kd fl T ss n (fs ++ [(f, k)]) → Q .non H1
section
variable {P : Program} {w : World} {K : PySem.W.Frag} {mg : Str → Option Value} {base : Heap}
theorem ok_shapeUnits {f C_Num C_Nested C_Many C_Pick C_Shape : Addr} {fd : FuncData} (F : Fun K "units" "Shape.units" s_Shape_units f fd) (M_Nested : Mn P w K mg base CX0 1 C_Nested "Nested" ["self", "shape"] (spNestedI C_Nested)) (N_Nested_units : Nn P w K mg base CX0 124 C_Nested "units" ["self", "path"] (spKU K ⟨C_Num, C_Nested, C_Many, C_Pick, C_Shape⟩ 24 isShpK)) : FnOk P w K mg base CX0 125 f fd ["self"] (spSU K ⟨C_Num, C_Nested, C_Many, C_Pick, C_Shape⟩) := by
  refine F.ok sc_Shape_units (fun vs H Q E h => ?_) (fun cdv A outer s H vs Q E hr h => ?_)
  · obtain ⟨s, i, T, ss, rfl, _⟩ := h
    rfl
  · obtain ⟨s, i, T, ss, rfl, hs, ht, hrk, hc, q⟩ := h
    refine ⟨_, (pss_one (ps_ret (pe_md (pe_mk M_Nested (hr.mono (by first | decide | omega)) (by rfl) pass0 (pa_cons (pv 0) pa_nil)) N_Nested_units (hr.mono (by first | decide | omega)) pass0 (pa_cons pe_str pa_nil)))), ?_⟩
    walk_at "rd"
    refine Made.intro fun a dx H1 na s1 h1 => ⟨a, dx, _, rfl, h1, fun H2 o2 h2 => ⟨rfl, _, _, h2, lkno1 (by decide +kernel), ?_⟩⟩
    have s12 := Same.off s1 na o2
    exact ⟨a, .shp i, T, ss, [], by rw [e_nix], ⟨dx, s, hs, h2⟩, ht.same s12, hrk, rfl, by decide, by decide, by rw [units_count]; exact hc, fun l H3 n3 s3 u3 => q l H3 (s12.free n3) (s12.trans s3) u3⟩
theorem ok_draftI {f C_Draft : Addr} {fd : FuncData} (F : Fun K "__init__" "Draft.__init__" s_Draft_init f fd) (K_Draft : Cls K C_Draft) (A_Draft_known : NoAttr K C_Draft "known") (A_Draft_fields : NoAttr K C_Draft "fields") (A_Draft_begun : NoAttr K C_Draft "begun") : FnOk P w K mg base CX0 1 f fd ["self"] (spDraftI C_Draft) := by
  refine F.ok sc_Draft_init (fun vs H Q E h => ?_) (fun cdv A outer s H vs Q E hr h => ?_)
  · obtain ⟨p, dx, rfl, _⟩ := h
    rfl
  · obtain ⟨p, dx, rfl, hp, q⟩ := h
    refine ⟨_, (pss_cons (ps_fldK (pv 0) pe_dnewK rfl (K := K))
      (pss_cons (ps_fldK (pv 0) (pe_lst pa_nil) rfl (K := K))
      (pss_one (ps_fldK (pv 0) pe_str rfl (K := K))))), ?_⟩
    walk_at "rd"
    refine New.intro fun kd H1 nk s1 g1 => ⟨_, _, _, s1 _ _ hp, K_Draft, A_Draft_known, by decide, Upd.intro fun H2 o2 h2 => ?_⟩
    refine ⟨by decide, New.intro fun fl H3 nf s3 g3 => ⟨_, _, _, s3 _ _ h2, K_Draft, A_Draft_fields, show (1 : Nat) < 1000 by decide, Upd.intro fun H4 o4 h4 => ?_⟩⟩
    rw [putk0] at h2
    rw [putk0, putk1] at h4
    have nkp : kd ≠ p := fun e => by
      rw [e, hp] at nk
      cases nk
    have nfp : fl ≠ p := fun e => by
      rw [e, h2] at nf
      cases nf
    have nf1 : H1 fl = none := o2.none (s1 _ _ hp) nf ⟨_, h2⟩
    refine ⟨_, _, _, h4, K_Draft, A_Draft_begun, show (2 : Nat) < 1000 by decide, Upd.intro fun H5 o5 h5 => ?_⟩
    rw [putk2, e_nix] at h5
    exact q kd fl H5 ((((Off.of s1).trans o2).trans (Off.of s3)).trans (o4.trans o5)) nk (s1.free nf1) ⟨dx, h5⟩ (o5 _ _ nkp (o4 _ _ nkp (s3 _ _ (o2 _ _ nkp g1)))) (o5 _ _ nfp (o4 _ _ nfp g3))
theorem ok_end {f C_Num C_Nested C_Many C_Pick C_Shape C_Draft : Addr} {fd : FuncData} (F : Fun K "end_shape" "Draft.end_shape" s_Draft_end_shape f fd) (K_Draft : Cls K C_Draft) (A_Draft_known : NoAttr K C_Draft "known") (A_Draft_fields : NoAttr K C_Draft "fields") (A_Draft_begun : NoAttr K C_Draft "begun") (M_Shape : Mn P w K mg base CX0 1 C_Shape "Shape" ["self", "name", "fields"] (spShapeI K C_Shape)) : FnOk P w K mg base CX0 3 f fd ["self"] (spEnd ⟨C_Num, C_Nested, C_Many, C_Pick, C_Shape⟩ C_Draft) := by
  refine F.ok sc_Draft_end_shape (fun vs H Q E h => ?_) (fun cdv A outer s H vs Q E hr h => ?_)
  · obtain ⟨p, kd, fl, T, ss, n, fs, rfl, _⟩ := h
    rfl
  · obtain ⟨p, kd, fl, T, ss, n, fs, rfl, ds, hl, hn, nn, q⟩ := h
    refine ⟨_, (pss_cons (ps_if (pt_cmpR op_ne (pe_fldK (pv 0) rfl (K := K)) pe_str (nomark _)) (pss_one (ps_dput (hu_of hr) (pe_fldK (pv 0) rfl (K := K)) (pe_fldK (pv 0) rfl (K := K)) (pe_mk M_Shape (hr.mono (by first | decide | omega)) (by rfl) pass0 (pa_cons (pe_fldK (pv 0) rfl (K := K)) (pa_cons (pe_fldK (pv 0) rfl (K := K)) pa_nil))) rfl)) pss_nil)
      (pss_one (ps_fldK (pv 0) (pe_lst pa_nil) rfl (K := K)))), ?_⟩
    walk_at "rd"
    obtain ⟨⟨dx, hp⟩, hk, ⟨ys, hf, fa⟩, ta⟩ := id ds
    obtain ⟨a1, a2, a3⟩ := ds.apart
    have pS : p ∈ [p, kd] := by simp
    have kS : kd ∈ [p, kd] := by simp
    refine ⟨_, _, _, hp, K_Draft, A_Draft_begun, _, ldb, rfl, ?_⟩
    -- the fields anew
    have fin : ∀ {HA : Hp} {T' : Tb} {ss' : List Addr}, OffS [p, kd] H HA → (∀ a, HA a = none → H a = none) → DO C_Draft HA p kd fl n → HA kd = some (.dK (knownL T' ss')) → TA ⟨C_Num, C_Nested, C_Many, C_Pick, C_Shape⟩ ss' HA T' → T' = endT T n fs → 0 ≤ sizeLine ∧ New HA (HO.lst []) fun p_1 H2 => ∃ x x_3 x_4, H2 p = some (HO.ins x x_3 x_4) ∧ Cls K x ∧ NoAttr K x (Str.ofString "fields") ∧ x_4.length < 1000 ∧ Upd H2 p (HO.ins x x_3 (putF (Str.ofString "fields") (V.ref p_1) x_4)) fun H3 => Q V.non H3 := by
      rintro HA T' ss' oA fr ⟨dxA, hpA⟩ hkA tA rfl
      refine ⟨by decide, New.intro fun fl' HB nb sB gB => ⟨_, _, _, sB _ _ hpA, K_Draft, A_Draft_fields, show (3 : Nat) < 1000 by decide, Upd.intro fun HC oC hC => ?_⟩⟩
      rw [pdf] at hC
      have nfp : fl' ≠ p := fun e => by
        rw [e, hpA] at nb
        cases nb
      have st : Stb HB HC := Stb.off oC (sB _ _ hpA) nst
      exact q fl' ss' HC (oA.trans ((OffS.same sB).trans (OffS.off oC pS))) (fr _ nb) ⟨⟨dxA, hC⟩, oC _ _ (Ne.symm a1) (sB _ _ hkA), ⟨[], oC _ _ nfp gB, .nil⟩, (tA.same sB).keep st⟩
    by_cases n0 : n = []
    · subst n0
      refine iteN (fun h => h (by rw [e_nix])) ?_
      exact fin OffS.refl (fun _ h => h) ⟨dx, hp⟩ hk ta (if_pos rfl).symm
    · refine iteP (sne e_nix n0) ⟨_, _, _, hp, K_Draft, A_Draft_begun, _, ldb, _, _, _, hp, K_Draft, A_Draft_fields, _, ldf, ?_⟩
      refine Made.intro fun s dxs H1 ns s1 h1 => ?_
      have nfs : fl ≠ s := fun e => by
        rw [← e, hf] at ns
        cases ns
      refine ⟨s, dxs, fl, _, ys, rfl, h1, seq_of (s1 _ _ hf), nfs, fun t H2 o2 nt ht h2 => ⟨rfl, ?_⟩⟩
      have s02 : Same H H2 := Same.off s1 ns o2
      have sa : SA ⟨C_Num, C_Nested, C_Many, C_Pick, C_Shape⟩ ss H2 (n, fs) s := ⟨dxs, t, ys, h2, ht, fa.keep (.of s02)⟩
      have hk2 := s02 _ _ hk
      refine ⟨_, _, _, s02 _ _ hp, K_Draft, A_Draft_known, _, ldk, _, _, _, s02 _ _ hp, K_Draft, A_Draft_begun, _, ldb, kd, rfl, upd H2 kd (.dK (putK (knownL T ss) (Sum.inr (S n)) (.ref s))), DPut.k (k := Sum.inr (S n)) hk2 (by rw [known_len ds.len, sizeLine_eq]; omega), ?_⟩
      have o3 : Off kd H2 (upd H2 kd (.dK (putK (knownL T ss) (Sum.inr (S n)) (.ref s)))) := Off.upd
      have h3 : upd H2 kd (.dK (putK (knownL T ss) (Sum.inr (S n)) (.ref s))) kd = some (.dK (putK (knownL T ss) (Sum.inr (S n)) (.ref s))) := upd_same
      generalize upd H2 kd (.dK (putK (knownL T ss) (Sum.inr (S n)) (.ref s))) = H3 at o3 h3
      rw [putK_new _ (known_none nn), ← known_snoc (c := (n, fs)) ds.len] at h3
      have st : Stb H2 H3 := stb_dk o3 hk2
      exact fin ((OffS.same s02).trans (OffS.off o3 kS)) (fun a ha => s02.free (o3.none hk2 ha ⟨_, h3⟩)) ⟨dx, o3 _ _ a1 (s02 _ _ hp)⟩ h3 (((ta.same s02).snoc sa).keep st) (if_neg n0).symm
theorem ok_takeShape {f C_Num C_Nested C_Many C_Pick C_Shape C_Draft : Addr} {fd : FuncData} (F : Fun K "take_shape" "Draft.take_shape" s_Draft_take_shape f fd) (z_len : mg "len" = none) (K_Draft : Cls K C_Draft) (A_Draft_known : NoAttr K C_Draft "known") (A_Draft_fields : NoAttr K C_Draft "fields") (A_Draft_begun : NoAttr K C_Draft "begun") (c_MOST_SHAPES : ∃ t, mg "MOST_SHAPES" = some (.int 8 t)) (N_Draft_end_shape : Nn P w K mg base CX0 3 C_Draft "end_shape" ["self"] (spEnd ⟨C_Num, C_Nested, C_Many, C_Pick, C_Shape⟩ C_Draft)) : FnOk P w K mg base CX0 4 f fd ["self", "line", "name"] (spTakeShape ⟨C_Num, C_Nested, C_Many, C_Pick, C_Shape⟩ C_Draft) := by
  refine F.ok sc_Draft_take_shape (fun vs H Q E h => ?_) (fun cdv A outer s H vs Q E hr h => ?_)
  · obtain ⟨p, kd, fl, T, ss, n, fs, m, ln, rfl, _⟩ := h
    rfl
  · obtain ⟨p, kd, fl, T, ss, n, fs, m, ln, rfl, ds, hl, hn, nn, ne, nm, q⟩ := h
    refine ⟨_, (pss_cons (ps_if (PW.pt (pw_and (pt_cmpR op_ne (pe_fldK (pv 0) rfl (K := K)) pe_str (nomark _)) (pw_and1 (pt_cmpR (op_eqL hr.units (K := K)) (pe_fldK (pv 0) rfl (K := K)) (pe_lst pa_nil) (nomark _))))) (pss_one ps_never) pss_nil)
      (pss_cons (ps_expr (pe_md0 (pv 0) N_Draft_end_shape (hr.mono (by first | decide | omega)) pass0))
      (pss_cons (ps_if (pt_cmp (pc_din (hu_of hr) (pv 2) (pe_fldK (pv 0) rfl (K := K))) (by rfl)) (pss_one ps_never) pss_nil)
      (pss_cons (ps_if (pt_cmpR op_eq (pe_callB call_lenD (by rfl) z_len (by decide +kernel) (pa_cons (pe_fldK (pv 0) rfl (K := K)) pa_nil)) (pe_gi (by rfl) c_MOST_SHAPES) (nomark _)) (pss_one ps_never) pss_nil)
      (pss_one (ps_fldK (pv 0) (pv 2) rfl (K := K))))))), ?_⟩
    walk_at "rd"
    obtain ⟨⟨dx, hp⟩, hk, ⟨ys, hf, fa⟩, ta⟩ := id ds
    obtain ⟨a1, a2, a3⟩ := ds.apart
    have pS : p ∈ [p, kd] := by simp
    have lenE : (endT T n fs).length ≤ 7 := by
      unfold endT
      split
      · omega
      · rw [List.length_append, List.length_singleton]
        omega
    refine ⟨_, _, _, hp, K_Draft, A_Draft_begun, _, ldb, rfl, ?_⟩
    by_cases n0 : n = []
    · refine iteN (fun h => h (by rw [n0, e_nix])) ⟨_, _, hp, ldno (by decide +kernel) (by decide +kernel) (by decide +kernel), p, kd, fl, T, ss, n, fs, rfl, ds, by omega, hn, nn, fun fl' ss' H1 o1 nf' d1 => ?_⟩
      obtain ⟨⟨dx1, hp1⟩, hk1, hf1, ta1⟩ := id d1
      refine ⟨_, _, _, hp1, K_Draft, A_Draft_known, _, ldk, kd, rfl, _, DGet.k (k := Sum.inr (S m)) hk1, ?_⟩
      rw [known_none nm]
      refine iteN (by decide) ⟨_, _, _, hp1, K_Draft, A_Draft_known, _, ldk, kd, rfl, _, hk1, ?_⟩
      rw [known_len d1.len]
      refine iteN (by omega) ⟨_, _, _, hp1, K_Draft, A_Draft_begun, show (3 : Nat) < 1000 by decide, Upd.intro fun H2 o2 h2 => ?_⟩
      rw [pdb] at h2
      have st : Stb H1 H2 := Stb.off o2 hp1 nst
      obtain ⟨b1, b2, b3⟩ := d1.apart
      obtain ⟨ys1, hf1, fa1⟩ := hf1
      exact q fl' ss' H2 (o1.trans (OffS.off o2 pS)) nf' ⟨⟨dx1, h2⟩, o2 _ _ (Ne.symm b1) hk1, ⟨ys1, o2 _ _ (Ne.symm b2) hf1, fa1.keep st⟩, ta1.keep st⟩
    · have fne := nn
      have hfs : fs ≠ [] := ne.elim (fun h => absurd h n0) (fun h => h)
      have hlen := Paired.length fa
      refine iteP (sne e_nix n0) ⟨_, _, _, hp, K_Draft, A_Draft_fields, _, ldf, by decide, New.intro fun e0 H0 n0' s0 g0 => ⟨fl, rfl, _, seq_of (s0 _ _ hf), _, seq_of g0, .inl ⟨fun e => hfs (List.eq_nil_of_length_eq_zero (by rw [← hlen, e]; rfl)), ?_⟩⟩⟩
      refine ⟨_, _, s0 _ _ hp, ldno (by decide +kernel) (by decide +kernel) (by decide +kernel), p, kd, fl, T, ss, n, fs, rfl, ds.same s0, by omega, hn, nn, fun fl' ss' H1 o1 nf' d1 => ?_⟩
      obtain ⟨⟨dx1, hp1⟩, hk1, hf1, ta1⟩ := id d1
      refine ⟨_, _, _, hp1, K_Draft, A_Draft_known, _, ldk, kd, rfl, _, DGet.k (k := Sum.inr (S m)) hk1, ?_⟩
      rw [known_none nm]
      refine iteN (by decide) ⟨_, _, _, hp1, K_Draft, A_Draft_known, _, ldk, kd, rfl, _, hk1, ?_⟩
      rw [known_len d1.len]
      refine iteN (by omega) ⟨_, _, _, hp1, K_Draft, A_Draft_begun, show (3 : Nat) < 1000 by decide, Upd.intro fun H2 o2 h2 => ?_⟩
      rw [pdb] at h2
      have st : Stb H1 H2 := Stb.off o2 hp1 nst
      obtain ⟨b1, b2, b3⟩ := d1.apart
      obtain ⟨ys1, hf1, fa1⟩ := hf1
      exact q fl' ss' H2 ((OffS.same s0).trans (o1.trans (OffS.off o2 pS))) (s0.free nf') ⟨⟨dx1, h2⟩, o2 _ _ (Ne.symm b1) hk1, ⟨ys1, o2 _ _ (Ne.symm b2) hf1, fa1.keep st⟩, ta1.keep st⟩
theorem ok_takeField {f C_Num C_Nested C_Many C_Pick C_Shape C_Draft : Addr} {fd : FuncData} (F : Fun K "take_field" "Draft.take_field" s_Draft_take_field f fd) (z_len : mg "len" = none) (K_Draft : Cls K C_Draft) (A_Draft_fields : NoAttr K C_Draft "fields") (A_Draft_begun : NoAttr K C_Draft "begun") (c_MOST_FIELDS : ∃ t, mg "MOST_FIELDS" = some (.int 6 t)) (c_MOST_CELLS : ∃ t, mg "MOST_CELLS" = some (.int 64 t)) (c_MOST_UNITS : ∃ t, mg "MOST_UNITS" = some (.int 40 t)) (c_DEEPEST : ∃ t, mg "DEEPEST" = some (.int 4 t))
    (N_Draft_kind_in : Nn P w K mg base CX0 8 C_Draft "kind_in" ["self", "line", "words"] (spKindIn ⟨C_Num, C_Nested, C_Many, C_Pick, C_Shape⟩ C_Draft 5)) (M_Shape : Mn P w K mg base CX0 1 C_Shape "Shape" ["self", "name", "fields"] (spShapeI K C_Shape)) (N_Shape_size : Nn P w K mg base CX0 97 C_Shape "size" ["self"] (spSS ⟨C_Num, C_Nested, C_Many, C_Pick, C_Shape⟩ 24)) (N_Shape_depth : Nn P w K mg base CX0 97 C_Shape "depth" ["self"] (spSD ⟨C_Num, C_Nested, C_Many, C_Pick, C_Shape⟩ 24)) (N_Shape_units : Nn P w K mg base CX0 125 C_Shape "units" ["self"] (spSU K ⟨C_Num, C_Nested, C_Many, C_Pick, C_Shape⟩)) : FnOk P w K mg base CX0 126 f fd ["self", "line", "words"] (spTakeField ⟨C_Num, C_Nested, C_Many, C_Pick, C_Shape⟩ C_Draft) := by
  refine F.ok sc_Draft_take_field (fun vs H Q E h => ?_) (fun cdv A outer s H vs Q E hr h => ?_)
  · obtain ⟨p, kd, fl, l, T, ss, n, fs, f, k, ln, rfl, _⟩ := h
    rfl
  · obtain ⟨p, kd, fl, l, T, ss, n, fs, f, k, ln, rfl, ds, nlf, nn, hn, hl, hw, hT, hnd, nf, sw, fits, q⟩ := h
    refine ⟨_, (pss_cons (ps_if (pt_cmpR op_eq (pe_fldK (pv 0) rfl (K := K)) pe_str (nomark _)) (pss_one ps_never) pss_nil)
      (pss_cons (ps_if (pt_cmpR (op_in_seqK (K := K)) (pe_ix (ix_listK (K := K)) (pv 2) pe_int (fun _ _ => rfl)) (pe_lc (own := [("name", 3), ("kind", 4)]) (g := gTup K 2 (gCons (gName 3) (gCons (gName 4) (gNil)))) (tt := tYes) rfl sc_Draft_take_field.nd (pi_listK (pe_fldK (pv 0) rfl (K := K)) (K := K)) (blkOk_by (own := [("name", 3), ("kind", 4)]) (N := ["self", "line", "words", "name", "kind", "shape"]) (sc := defScope s_Draft_take_field) (by decide +kernel)) (fun _ _ _ _ _ => (pg_tupK (K := K) rfl (pgs_cons (pg_name (i := 3) sc_Draft_take_field.nd rfl (Or.inl rfl)) (pgs_cons (pg_name (i := 4) sc_Draft_take_field.nd rfl (Or.inl rfl)) pgs_nil)))) (fun _ _ _ _ _ => pts_nil) (fun _ _ _ _ _ => (pv 3))) (by rfl)) (pss_one ps_never) pss_nil)
      (pss_cons (ps_set (i := 4) sc_Draft_take_field.nd rfl (by first | exact Or.inl rfl | exact Or.inr rfl) (pe_md (pv 0) N_Draft_kind_in (hr.mono (by first | decide | omega)) pass0 (pa_cons (pv 1) (pa_cons (pe_slice (sl_listK (K := K)) (pv 2) (po_some pe_int) po_none) pa_nil))))
      (pss_cons (ps_expr (pe_bmK (K := K) PySem.F.plainAttrs_list PySem.F.slot_list_append PySem.F.type_list_append mt_append (pe_fldK (pv 0) rfl (K := K)) (pa_cons (pe_tup (pa_cons (pe_ix (ix_listK (K := K)) (pv 2) pe_int (fun _ _ => rfl)) (pa_cons (pv 4) pa_nil))) pa_nil)))
      (pss_cons (ps_set (i := 5) sc_Draft_take_field.nd rfl (by first | exact Or.inl rfl | exact Or.inr rfl) (pe_mk M_Shape (hr.mono (by first | decide | omega)) (by rfl) pass0 (pa_cons (pe_fldK (pv 0) rfl (K := K)) (pa_cons (pe_fldK (pv 0) rfl (K := K)) pa_nil))))
      (pss_cons (ps_if (PW.pt (pw_or (pt_cmpR op_gt (pe_callB (call_lenR (K := K)) (by rfl) z_len (by decide +kernel) (pa_cons (pe_fldK (pv 0) rfl (K := K)) pa_nil)) (pe_gi (by rfl) c_MOST_FIELDS) (nomark _)) (pw_or (pt_cmpR op_gt (pe_md0 (pv 5) N_Shape_size (hr.mono (by first | decide | omega)) pass0) (pe_gi (by rfl) c_MOST_CELLS) (nomark _)) (pw_or1 (pt_cmpR op_gt (pe_md0 (pv 5) N_Shape_depth (hr.mono (by first | decide | omega)) pass0) (pe_gi (by rfl) c_DEEPEST) (nomark _)))))) (pss_one ps_never) pss_nil)
      (pss_one (ps_if (pt_cmpR op_gt (pe_callB (call_lenR (K := K)) (by rfl) z_len (by decide +kernel) (pa_cons (pe_md0 (pv 5) N_Shape_units (hr.mono (by first | decide | omega)) pass0) pa_nil)) (pe_gi (by rfl) c_MOST_UNITS) (nomark _)) (pss_one ps_never) pss_nil)))))))), ?_⟩
    walk_at "rd"
    obtain ⟨⟨dx, hp⟩, hk, ⟨ys, hf, fa⟩, ta⟩ := id ds
    obtain ⟨a1, a2, a3⟩ := ds.apart
    have hlen := Paired.length fa
    refine ⟨_, _, _, hp, K_Draft, A_Draft_begun, _, ldb, rfl, iteN (sne e_nix nn) ⟨_, seq_of hl, .str (S f), atI_nat (j := 0) rfl, _, _, _, hp, K_Draft, A_Draft_fields, _, ldf, fl, rfl, ⟨_, seq_of hf⟩, ?_⟩⟩
    have sl6 : fs.length ≤ 5 := by
      have := sw.len
      rw [List.length_append, List.length_singleton] at this
      omega
    refine Cmp.pureD fs (fun p => V.str (S p.1)) (seq_of hf) hlen (by omega) (fun j x d H2 R hx hd s2 r => ?_) (fun l2 H2 n2 s2 g2 => ?_)
    · obtain ⟨d', hd', e, c, rfl, he, hc⟩ := pget fa hx
      rw [hd] at hd'
      obtain rfl := Option.some.inj hd'
      refine two_at (s2 _ _ he) ⟨rfl, ?_⟩
      walk_at "rd"
      exact r H2 (Same.refl H2)
    · have e2 : fs.map (fun p => V.str (S p.1)) = wds (fs.map (·.1)) := by
        unfold wds
        rw [List.map_map]
        rfl
      rw [e2] at g2
      refine ⟨l2, rfl, _, .inl (seq_of g2), rfl, flat_wds _, ?_⟩
      rw [inV_str, decide_eq_false nf]
      refine iteN (by decide) ⟨_, _, s2 _ _ hp, ldno (by decide +kernel) (by decide +kernel) (by decide +kernel), _, seq_of (s2 _ _ hl), New.intro fun r H3 n3 s3 g3 => ?_⟩
      rw [show (some (1 : Int)) = some ((1 : Nat) : Int) from rfl, cut_fromW] at g3
      have s03 := s2.trans s3
      have hkk : KOk T.length k := (sw.each (f, k) (by simp)).2
      refine ⟨p, kd, fl, r, n, ln, k, T, ss, rfl, ⟨dx, s03 _ _ hp⟩, s03 _ _ hk, ds.len, hw, hnd, hkk, ?_, g3, fun a H4 s4 ka => ?_⟩
      · cases k with
        | row m k =>
          rcases hkk.2.2 with ⟨w', rfl, h4, h5⟩ | ⟨i, rfl, hi⟩ <;> (show (0 + 1 < 5); decide)
        | _ => show (0 < 5); decide
      · have s04 := s03.trans s4
        refine ⟨_, _, _, s04 _ _ hp, K_Draft, A_Draft_fields, _, ldf, tyv_list (seq_of (s04 _ _ hf)), _, seq_of (s04 _ _ hl), .str (S f), atI_nat (j := 0) rfl, by decide, New.intro fun u H5 n5 s5 g5 => ⟨fl, rfl, _, s5 _ _ (s04 _ _ hf), by rw [sizeLine_eq]; omega, Upd.intro fun H6 o6 h6 => ?_⟩⟩
        have s05 := s04.trans s5
        have hf5 := s05 _ _ hf
        have st6 : Stb H5 H6 := stb_lst o6 hf5
        have nuf : u ≠ fl := fun e => by
          rw [e, s04 _ _ hf] at n5
          cases n5
        have fa6 : FA ⟨C_Num, C_Nested, C_Many, C_Pick, C_Shape⟩ ss H6 (ys ++ [.ref u]) (fs ++ [(f, k)]) := psnoc ((fa.keep (.of s05)).keep st6) ⟨u, a, rfl, o6 _ _ nuf g5, (ka.same s5).keep st6⟩
        have hp6 := o6 _ _ a2 (s05 _ _ hp)
        have hk6 := o6 _ _ a3 (s05 _ _ hk)
        have ta6 := (ta.same s05).keep st6
        refine ⟨_, _, _, hp6, K_Draft, A_Draft_begun, _, ldb, _, _, _, hp6, K_Draft, A_Draft_fields, _, ldf, ?_⟩
        refine Made.intro fun s dxs H7 n7 s7 h7 => ?_
        have nfs : fl ≠ s := fun e => by
          rw [← e, h6] at n7
          cases n7
        refine ⟨s, dxs, fl, _, _, rfl, h7, seq_of (s7 _ _ h6), nfs, fun t H8 o8 nt ht h8 => ⟨rfl, ?_⟩⟩
        have s68 : Same H6 H8 := Same.off s7 n7 o8
        have sa : SA ⟨C_Num, C_Nested, C_Many, C_Pick, C_Shape⟩ ss H8 (n, fs ++ [(f, k)]) s := ⟨dxs, t, _, h8, ht, fa6.keep (.of s68)⟩
        have ta8 := (ta6.same s68).snoc sa
        have hss : (ss ++ [s])[T.length]? = some s := by
          rw [← ds.len, List.getElem?_append_right (Nat.le_refl _), Nat.sub_self]
          rfl
        have w' := wf_snoc hw hT sw
        have rk : Rk (T ++ [(n, fs ++ [(f, k)])]) 24 (.shp T.length) := wf_24 w' (by rw [List.length_append, List.length_singleton]; omega)
        obtain ⟨c1, c2, c3⟩ := fits_cnt fits
        refine ⟨_, _, _, s68 _ _ hp6, K_Draft, A_Draft_fields, _, ldf, ?_⟩
        have no1 : ∀ {x y : V}, List.lookup (Str.ofString "size") ([(Str.ofString "name", x), (Str.ofString "fields", y)] : List (Str × V)) = none := fun {x y} => lkno (by decide +kernel) (by decide +kernel)
        have no2 : ∀ {x y : V}, List.lookup (Str.ofString "depth") ([(Str.ofString "name", x), (Str.ofString "fields", y)] : List (Str × V)) = none := fun {x y} => lkno (by decide +kernel) (by decide +kernel)
        have no3 : ∀ {x y : V}, List.lookup (Str.ofString "units") ([(Str.ofString "name", x), (Str.ofString "fields", y)] : List (Str × V)) = none := fun {x y} => lkno (by decide +kernel) (by decide +kernel)
        refine ⟨fl, rfl, _, .inl (seq_of (s68 _ _ h6)), iteN (by rw [List.length_append, List.length_singleton]; omega) ⟨_, _, h8, no1, s, T.length, _, _, rfl, hss, ta8, rk, fun H9 s9 => ⟨_, rfl, iteN (by omega) ⟨_, _, s9 _ _ h8, no2, s, T.length, _, _, rfl, hss, ta8.same s9, rk, fun HA sA => ⟨_, rfl, iteN (by omega) ⟨_, _, sA _ _ (s9 _ _ h8), no3, s, T.length, _, _, rfl, hss, (ta8.same s9).same sA, rk, by omega, fun lu HB nb sB uB => ?_⟩⟩⟩⟩⟩⟩
        obtain ⟨xu, gu, tu⟩ := uB
        have eu := UnL.len gu ⟨xu, gu, tu⟩
        rw [units_count] at eu
        have s6B := s68.trans (s9.trans (sA.trans sB))
        refine ⟨lu, rfl, _, .inl (seq_of gu), iteN (by omega) ?_⟩
        have d6 : DSx ⟨C_Num, C_Nested, C_Many, C_Pick, C_Shape⟩ C_Draft H6 p kd fl T ss n (fs ++ [(f, k)]) := ⟨⟨dx, hp6⟩, hk6, ⟨_, h6, fa6⟩, ta6⟩
        exact q HB ((OffS.same s05).trans ((OffS.off o6 (by simp)).trans (OffS.same s6B))) (d6.same s6B)
end

end K10

set_option Elab.async false
set_option linter.all false
set_option pp.deepTerms true
set_option pp.maxSteps 100000
set_option format.indent 1
set_option format.width 260
set_option maxRecDepth 100000
set_option maxHeartbeats 4000000
set_option exponentiation.threshold 2000
namespace K10
open PySem PySem.Spec PyProof.Rows L2 Rb Rx SX Tx Rg Rt Rs
local macro_rules | `(tactic| walk_at "rd") => `(tactic| simp only [L2.start, wMix, rRepr, rIsX, rIsXT, gSlAll, rEqS, rNeL, rNeV, rMulS, rEqL, rNotInT, rMax, tMethV, tListVals, tDGet, iEnum, tDIn, tDNotIn, sDPut, cxOf, tSeq, tAsg, tIfS, tTest, tB, tOp, tUn, tVar, tC, tCB, tCons, tNil, tRet, tRetN, tNext, tDrop, tBM, tBM0, tLst_n, tTup_n, tAnd, tOr, tNot, tAndV, tOrV, tNotV, tIf, tChain, tCall, gName, gTup, gCons, gNil, gUnl, gSub, rI, rI0, rU, rIxL, rIxT, rSlL_n, tSl, tPart, tNoPart, rCatR, rAppend_n, rExtend_n, rPop_n, rClear_n, rSetL_n, rInsert, rRemI_n, tMake_n, sFld_n, tFld, tMeth, rIn, tFor_n, tLc_n, iRngL1, iRngL2, iList, iTup, iRev, iZip, rDivmod, rListOf, rTupOf, rLenSeq, rMin2, rMax2, rAll, rAny, rIsi, tNever, tYes, wipe, tAug, ipI, rEq, rNe, tIsN, tNotN, tDNewK_n, tRz, tCallS, tMethX, tMakeX, tXfA, wAs, wOnly, tVeI, tOst, gSlS, iRng3, rSum, rStrI, rIsB, rNotB, rSlT, rIndex, rRep_n, rInt1, tLenSetS, scal_ii, scal_bb, scal_ss, scal_nn, scal_ni, scal_in, scal_ns, scal_sn, scal_is, scal_si, List.map_cons, List.map_nil, List.length_cons, List.length_nil, List.replicate, List.nil_append, List.cons_append, List.append_nil, List.getElem?_cons_zero, List.getElem?_cons_succ, List.set_cons_zero, List.set_cons_succ, List.set_nil, Nat.reduceAdd, Nat.reduceSub, Option.some.injEq, V.int.injEq, V.ref.injEq, V.bl.injEq, V.str.injEq, V.ty.injEq, List.cons.injEq, and_assoc, and_true, true_and, exists_eq_left, exists_eq_left', exists_and_left, exists_and_right, exists_eq, exists_eq', exists_eq_right, exists_eq_right', if_true, if_false, Bool.false_eq_true, Bool.not_true, Bool.not_false, if_pos, Int.toNat_natCast, decide_eq_true_eq, Bool.not_eq_true', decide_eq_false_iff_not, reduceCtorEq, false_and, and_false, exists_false, exists_const, rIxS, C8.rSlX, rJoinS, rSplitS, tBMS, rIndexX, iStr, tDisp, tPairs])
local macro_rules | `(tactic| walk_at "ex") => `(tactic| repeat' (first | assumption | (with_reducible refine Exists.intro _ ?_) | (with_reducible refine And.intro ?_ ?_) | rfl))

/-! ### read_shapes -/
theorem nameT_take {T : Tb} {m i : Nat} (h : i < m) : nameT (T.take m) i = nameT T i := by
  unfold nameT
  rw [List.getElem?_take, if_pos h]
theorem wordsK_take {T : Tb} {m : Nat} : ∀ {k : Kd}, KOk m k → wordsK (T.take m) k = wordsK T k
  | .num _, _ => rfl
  | .shp i, h => by
    show [nameT (T.take m) i] = [nameT T i]
    rw [nameT_take h]
  | .pick is, h => by
    show pickW' :: is.map (nameT (T.take m)) = pickW' :: is.map (nameT T)
    rw [map_congr' fun i hi => nameT_take (h.2.2.2 i hi)]
  | .row n k, h => by
    show rowW :: TL.numL n :: wordsK (T.take m) k = rowW :: TL.numL n :: wordsK T k
    rcases h.2.2 with ⟨w', rfl, h4, h5⟩ | ⟨i, rfl, hi⟩
    · rfl
    · rw [wordsK_take (k := .shp i) hi]
theorem wf_take {T : Tb} (w : WfT T) (m : Nat) : WfT (T.take m) := ⟨by rw [List.length_take]; have := w.1; omega, fun i s hs => by
  rw [List.getElem?_take] at hs
  split at hs
  · exact w.2 i s hs
  · cases hs⟩
def CleanW (ws : List (List Nat)) : Prop := ∀ w ∈ ws, ∀ c ∈ w, 48 ≤ c
theorem clean_words {T : Tb} (w : WfT T) : ∀ {m : Nat} {k : Kd}, m ≤ T.length → KOk m k → CleanW (wordsK T k)
  | m, .num x, hm, hk => fun v hv => by
    rcases List.mem_cons.mp hv with rfl | hv
    · decide
    · rw [List.mem_singleton.mp hv]
      exact fun c hc => (TL.numL_digits x c hc).1
  | m, .shp i, hm, hk => fun v hv => by
    rw [List.mem_singleton.mp hv]
    intro c hc
    have := (isName_len (wf_name w (Nat.lt_of_lt_of_le hk hm))).2.2.1 c hc
    omega
  | m, .pick is, hm, hk => fun v hv => by
    rcases List.mem_cons.mp hv with rfl | hv
    · decide
    · obtain ⟨i, hi, rfl⟩ := List.mem_map.mp hv
      intro c hc
      have := (isName_len (wf_name w (Nat.lt_of_lt_of_le (hk.2.2.2 i hi) hm))).2.2.1 c hc
      omega
  | m, .row n k, hm, hk => fun v hv => by
    rcases List.mem_cons.mp hv with rfl | hv
    · decide
    · rcases List.mem_cons.mp hv with rfl | hv
      · exact fun c hc => (TL.numL_digits n c hc).1
      · rcases hk.2.2 with ⟨w', rfl, h4, h5⟩ | ⟨i, rfl, hi⟩
        · exact clean_words w (k := .num w') hm ⟨h4, h5⟩ v hv
        · exact clean_words w (k := .shp i) hm hi v hv
theorem clean_name {l : List Nat} (h : isNameL l = true) : ∀ c ∈ l, 48 ≤ c := fun c hc => by
  have := (isName_len h).2.2.1 c hc
  omega
theorem clean_join : ∀ {ws : List (List Nat)}, CleanW ws → 10 ∉ TL.joinL [32] ws
  | [], _ => by simp [TL.joinL]
  | [a], h => fun m => by
    have := h a List.mem_cons_self 10 m
    omega
  | a :: b :: r, h => fun m => by
    rw [joinLc] at m
    rcases List.mem_append.mp m with m | m
    · have := h a List.mem_cons_self 10 m
      omega
    · rcases List.mem_append.mp m with m | m
      · simp at m
      · exact clean_join (fun w hw => h w (List.mem_cons_of_mem _ hw)) m
theorem split_line {ws : List (List Nat)} (h : CleanW ws) (ne : ws ≠ []) : TL.spl [32] 0 [] (TL.joinL [32] ws) = ws := spl_join (c := 32) (sep := []) ne fun w hw m => by
  have := h w hw 32 m
  omega
theorem clean_lineS {n : List Nat} (h : isNameL n = true) : CleanW [shapeW, n] := fun w hw => by
  rcases List.mem_cons.mp hw with rfl | hw
  · decide
  · rw [List.mem_singleton.mp hw]
    exact clean_name h
theorem clean_lineF {T : Tb} (w : WfT T) {m : Nat} {f : List Nat × Kd} (hm : m ≤ T.length) (h : isNameL f.1 = true) (hk : KOk m f.2) : CleanW (f.1 :: wordsK T f.2) := fun v hv => by
  rcases List.mem_cons.mp hv with rfl | hv
  · exact clean_name h
  · exact clean_words w hm hk v hv
theorem clean_lines {T : Tb} (w : WfT T) : ∀ l ∈ linesT T, 10 ∉ l := fun l hl => by
  obtain ⟨s, hs, hl⟩ := List.mem_flatMap.mp hl
  obtain ⟨m, hm, e⟩ := List.mem_iff_getElem.mp hs
  have sw := w.2 m s (by rw [List.getElem?_eq_getElem hm, e])
  rcases List.mem_cons.mp hl with rfl | hl
  · exact clean_join (clean_lineS sw.name)
  · obtain ⟨p, hp, rfl⟩ := List.mem_map.mp hl
    obtain ⟨h1, h2⟩ := sw.each p hp
    exact clean_join (clean_lineF w (Nat.le_of_lt hm) h1 h2)
theorem text_len {T : Tb} (w : WfT T) (hl : T.length ≤ 6) (ne : T ≠ []) : (textT T).length ≤ 100000 := by
  have h1 := joinL_len 10 (linesT T)
  obtain ⟨_, h2⟩ := linesT_len (wf_okT w ne)
  have h3 := sum_le (l := (linesT T).map (·.length)) (b := 1700) fun x hx => by
    obtain ⟨l, hl, rfl⟩ := List.mem_map.mp hx
    exact h2 l hl
  have h4 : (linesT T).length ≤ 7 * T.length := by
    unfold linesT
    rw [List.length_flatMap]
    have := sum_le (l := T.map fun s => (linesS T s).length) (b := 7) fun x hx => by
      obtain ⟨s, hs, rfl⟩ := List.mem_map.mp hx
      obtain ⟨m, hm, e⟩ := List.mem_iff_getElem.mp hs
      have := (w.2 m s (by rw [List.getElem?_eq_getElem hm, e])).len
      unfold linesS
      rw [List.length_cons, List.length_map]
      omega
    rw [List.length_map] at this
    exact this
  rw [List.length_map] at h3
  unfold textT
  omega
theorem linesT_ne {T : Tb} (ne : T ≠ []) : linesT T ≠ [] := by
  cases T with
  | nil => exact absurd rfl ne
  | cons c T =>
    intro e
    have := congrArg List.length e
    rw [show linesT (c :: T) = linesS (c :: T) c ++ T.flatMap (linesS (c :: T)) from List.flatMap_cons] at this
    rw [List.length_append] at this
    have h : (linesS (c :: T) c).length ≥ 1 := by
      unfold linesS
      rw [List.length_cons]
      omega
    change _ = 0 at this
    omega
/-- what has been read when so many lines are done -/
inductive RS (T : Tb) : Nat → Tb → List Nat → Fl → Prop
  | start : RS T 0 [] [] []
  | at {i m j : Nat} {c : List Nat × Fl} (hc : T[m]? = some c) (hj : j ≤ c.2.length) (hd : (linesT T).drop i = (c.2.drop j).map (lineF T) ++ (T.drop (m + 1)).flatMap (linesS T)) : RS T i (T.take m) c.1 (c.2.take j)
theorem RS.shape {T : Tb} {i m : Nat} {c : List Nat × Fl} (hc : T[m]? = some c) (hd : (linesT T).drop i = (T.drop m).flatMap (linesS T)) : (linesT T)[i]? = some (lineS c.1) ∧ RS T (i + 1) (T.take m) c.1 [] := by
  have e : (T.drop m).flatMap (linesS T) = lineS c.1 :: (c.2.map (lineF T) ++ (T.drop (m + 1)).flatMap (linesS T)) := by
    rw [drop_at hc, List.flatMap_cons]
    rfl
  rw [e] at hd
  have h1 : (linesT T)[i]? = some (lineS c.1) := by
    have := congrArg (fun l => l[0]?) hd
    simpa using this
  refine ⟨h1, ?_⟩
  have h2 : (linesT T).drop (i + 1) = c.2.map (lineF T) ++ (T.drop (m + 1)).flatMap (linesS T) := by
    rw [drop_at h1] at hd
    exact (List.cons.inj hd).2
  exact RS.at (j := 0) hc (Nat.zero_le _) h2
/-- the next line -/
theorem RS.next {T : Tb} (w : WfT T) {i : Nat} {Tc : Tb} {n : List Nat} {fs : Fl} {x : List Nat} (r : RS T i Tc n fs) (hx : (linesT T)[i]? = some x) :
    (∃ m c, T[m]? = some c ∧ x = lineS c.1 ∧ endT Tc n fs = T.take m ∧ (n = [] ∨ fs ≠ []) ∧ RS T (i + 1) (T.take m) c.1 []) ∨
    ∃ m c j f, T[m]? = some c ∧ c.2[j]? = some f ∧ Tc = T.take m ∧ n = c.1 ∧ fs = c.2.take j ∧ x = lineF T f ∧ RS T (i + 1) (T.take m) c.1 (c.2.take (j + 1)) := by
  cases r with
  | start =>
    cases T with
    | nil => simp [linesT] at hx
    | cons c T =>
      obtain ⟨h1, h2⟩ := RS.shape (T := c :: T) (i := 0) (m := 0) (c := c) rfl rfl
      rw [h1] at hx
      exact .inl ⟨0, c, rfl, (Option.some.inj hx).symm, rfl, .inl rfl, h2⟩
  | @«at» _ m j c hc hj hd =>
    by_cases g : j < c.2.length
    · have hf := List.getElem?_eq_getElem g
      rw [drop_at hf, List.map_cons, List.cons_append] at hd
      have h1 : (linesT T)[i]? = some (lineF T c.2[j]) := by
        have := congrArg (fun l => l[0]?) hd
        simpa using this
      rw [h1] at hx
      refine .inr ⟨m, c, j, _, hc, hf, rfl, rfl, rfl, (Option.some.inj hx).symm, RS.at (j := j + 1) hc g ?_⟩
      rw [drop_at h1] at hd
      exact (List.cons.inj hd).2
    · obtain rfl : j = c.2.length := by omega
      rw [List.drop_length, List.map_nil, List.nil_append] at hd
      have hm1 : m + 1 < T.length := by
        apply Classical.byContradiction
        intro h
        have e : T.drop (m + 1) = [] := List.drop_eq_nil_of_le (by omega)
        rw [e, List.flatMap_nil] at hd
        have := congrArg (fun l => l[0]?) hd
        simp [hx] at this
      have hc1 := List.getElem?_eq_getElem hm1
      obtain ⟨h1, h2⟩ := RS.shape hc1 hd
      rw [h1] at hx
      refine .inl ⟨m + 1, _, hc1, (Option.some.inj hx).symm, ?_, ?_, h2⟩
      · unfold endT
        rw [List.take_length, take_snoc hc]
        rw [if_neg]
        intro e
        have := (isName_len (w.2 m c hc).name).1
        rw [e] at this
        exact absurd this (by decide)
      · rw [List.take_length]
        exact .inr (w.2 m c hc).ne
/-- when all is read -/
theorem RS.done {T : Tb} (w : WfT T) (ne : T ≠ []) {Tc : Tb} {n : List Nat} {fs : Fl} (r : RS T (linesT T).length Tc n fs) : endT Tc n fs = T ∧ n ≠ [] ∧ fs ≠ [] ∧ ∃ m, T[m]? = some (n, fs) ∧ Tc = T.take m := by
  generalize hi : (linesT T).length = i at r
  cases r with
  | start =>
    exact absurd (List.eq_nil_of_length_eq_zero hi) (linesT_ne ne)
  | @«at» _ m j c hc hj hd =>
    rw [List.drop_eq_nil_of_le (by omega)] at hd
    have h1 := (List.append_eq_nil_iff.mp hd.symm).1
    have h2 := (List.append_eq_nil_iff.mp hd.symm).2
    have hj' : j = c.2.length := by
      have := congrArg List.length h1
      rw [List.length_map, List.length_drop] at this
      change _ = 0 at this
      omega
    subst hj'
    have hm : m + 1 = T.length := by
      have := (List.getElem?_eq_some_iff.mp hc).1
      apply Classical.byContradiction
      intro h
      have hc1 := List.getElem?_eq_getElem (show m + 1 < T.length by omega)
      rw [drop_at hc1, List.flatMap_cons] at h2
      have := (List.append_eq_nil_iff.mp h2).1
      unfold linesS at this
      cases this
    have hn : c.1 ≠ [] := fun e => by
      have := (isName_len (w.2 m c hc).name).1
      rw [e] at this
      exact absurd this (by decide)
    rw [List.take_length]
    refine ⟨?_, hn, (w.2 m c hc).ne, m, hc, rfl⟩
    unfold endT
    rw [if_neg hn]
    show T.take m ++ [c] = T
    rw [← take_snoc hc, hm, List.take_length]
theorem name_take {T : Tb} {m : Nat} {c : List Nat × Fl} (nd : (T.map (·.1)).Nodup) (hc : T[m]? = some c) : c.1 ∉ (T.take m).map (·.1) := fun h => by
  obtain ⟨d, hd, e⟩ := List.mem_map.mp h
  obtain ⟨i, hi⟩ := List.mem_iff_getElem?.mp hd
  rw [List.getElem?_take] at hi
  split at hi
  · rename_i g
    have e1 : (T.map (·.1))[i]? = some d.1 := by rw [List.getElem?_map, hi]; rfl
    have e2 : (T.map (·.1))[m]? = some c.1 := by rw [List.getElem?_map, hc]; rfl
    rw [e] at e1
    have := nd_ix nd e1 e2
    omega
  · cases hi
theorem RS.facts {T : Tb} (w : WfT T) (nd : (T.map (·.1)).Nodup) {i : Nat} {Tc : Tb} {n : List Nat} {fs : Fl} (r : RS T i Tc n fs) : Tc.length ≤ T.length ∧ n.length ≤ 6 ∧ n ∉ Tc.map (·.1) := by
  cases r with
  | start => exact ⟨Nat.zero_le _, Nat.zero_le _, List.not_mem_nil⟩
  | @«at» _ m j c hc hj hd => exact ⟨by rw [List.length_take]; omega, (isName_len (w.2 m c hc).name).2.1, name_take nd hc⟩
theorem KOk.mono {m n : Nat} (h : m ≤ n) : ∀ {k : Kd}, KOk m k → KOk n k
  | .num _, hk => hk
  | .shp _, hk => Nat.lt_of_lt_of_le hk h
  | .pick _, hk => ⟨hk.1, hk.2.1, hk.2.2.1, fun i hi => Nat.lt_of_lt_of_le (hk.2.2.2 i hi) h⟩
  | .row _ _, hk => ⟨hk.1, hk.2.1, hk.2.2.elim .inl fun ⟨i, e, hi⟩ => .inr ⟨i, e, Nat.lt_of_lt_of_le hi h⟩⟩
theorem rowD_ok {m : Nat} {k : Kd} (hk : KOk m k) : rowD k < 5 := by
  cases k with
  | row q k => rcases hk.2.2 with ⟨w', rfl, h4, h5⟩ | ⟨i, rfl, hi⟩ <;> (show (0 + 1 < 5); decide)
  | _ => show (0 < 5); decide
def spRead (C : KC) (CS : Addr) : Sp := fun vs H Q _ => ∃ (T : Tb), vs = [.str (S (textT T))] ∧ TabOk T ∧ T ≠ [] ∧ T.length ≤ 6 ∧ ∀ p dx t ss H1, Same H H1 → H1 p = some (.ins CS dx [(Str.ofString "shapes", .ref t)]) → H1 t = some (.tup (ss.map V.ref)) → TA C ss H1 T → Q (.ref p) H1
section
variable {P : Program} {w : World} {K : PySem.W.Frag} {mg : Str → Option Value} {base : Heap}
theorem ok_read {f C_Num C_Nested C_Many C_Pick C_Shape C_Shapes C_Draft : Addr} {fd : FuncData} (F : Fun K "read_shapes" "read_shapes" s_read_shapes f fd) (z_len : mg "len" = none) (z_list : mg "list" = none) (z_str : mg "str" = none) (z_isinstance : mg "isinstance" = none) (z_enumerate : mg "enumerate" = none) (K_Draft : Cls K C_Draft) (A_Draft_known : NoAttr K C_Draft "known") (A_Draft_fields : NoAttr K C_Draft "fields")
    (D_is_name : Dn P w K mg base CX0 2 "is_name" ["thing"] (spIsName K)) (D_is_form : Dn P w K mg base CX0 8 "is_form" ["words"] (spForm 5)) (M_Draft : Mn P w K mg base CX0 1 C_Draft "Draft" ["self"] (spDraftI C_Draft)) (M_Shapes : Mn P w K mg base CX0 1 C_Shapes "Shapes" ["self", "shapes"] (spTupI K C_Shapes))
    (N_Draft_take_shape : Nn P w K mg base CX0 4 C_Draft "take_shape" ["self", "line", "name"] (spTakeShape ⟨C_Num, C_Nested, C_Many, C_Pick, C_Shape⟩ C_Draft)) (N_Draft_end_shape : Nn P w K mg base CX0 3 C_Draft "end_shape" ["self"] (spEnd ⟨C_Num, C_Nested, C_Many, C_Pick, C_Shape⟩ C_Draft)) (N_Draft_take_field : Nn P w K mg base CX0 126 C_Draft "take_field" ["self", "line", "words"] (spTakeField ⟨C_Num, C_Nested, C_Many, C_Pick, C_Shape⟩ C_Draft)) : FnOk P w K mg base CX0 127 f fd ["text"] (spRead ⟨C_Num, C_Nested, C_Many, C_Pick, C_Shape⟩ C_Shapes) := by
  refine F.ok sc_read_shapes (fun vs H Q E h => ?_) (fun cdv A outer s H vs Q E hr h => ?_)
  · obtain ⟨T, rfl, _⟩ := h
    rfl
  · obtain ⟨T, rfl, ok, ne, hl, q⟩ := h
    refine ⟨_, (pss_cons (ps_if (pt_not (pt_val (pe_callB (call_isiK' (K := K)) (by rfl) z_isinstance (by decide +kernel) (pa_cons (pv 0) (pa_cons (pe_bltn (v := V.ty "str") (u := Value.type "str") (by rfl) z_str (by decide +kernel) rfl) pa_nil))))) (pss_one ps_never) pss_nil)
      (pss_cons (ps_set (i := 1) sc_read_shapes.nd rfl (by first | exact Or.inl rfl | exact Or.inr rfl) (pe_mk0 M_Draft (hr.mono (by first | decide | omega)) (by rfl) pass0))
      (pss_cons (ps_set (i := 2) sc_read_shapes.nd rfl (by first | exact Or.inl rfl | exact Or.inr rfl) (pe_bmK (K := K) PySem.F.plainAttrs_str PySem.F.slot_str_split PySem.F.type_str_split mt_splitS (pv 0) (pa_cons pe_str pa_nil)))
      (pss_cons (ps_for PassesOwn.never rfl (pi_enumK (by rfl) z_enumerate (pa_cons (pv 2) pa_nil) (K := K)) (pg_tup rfl (pgs_cons (pg_name (i := 3) sc_read_shapes.nd rfl (by first | exact Or.inl rfl | exact Or.inr rfl)) (pgs_cons (pg_name (i := 4) sc_read_shapes.nd rfl (by first | exact Or.inl rfl | exact Or.inr rfl)) pgs_nil))) (pss_cons (ps_set (i := 5) sc_read_shapes.nd rfl (by first | exact Or.inl rfl | exact Or.inr rfl) (pe_bmK (K := K) PySem.F.plainAttrs_str PySem.F.slot_str_split PySem.F.type_str_split mt_splitS (pv 4) (pa_cons pe_str pa_nil)))
      (pss_one (ps_if (PW.pt (pw_and (pt_cmpR op_eq (pe_callB (call_lenR (K := K)) (by rfl) z_len (by decide +kernel) (pa_cons (pv 5) pa_nil)) pe_int (nomark _)) (pw_and (pt_cmpR op_eq (pe_ix (ix_listK (K := K)) (pv 5) pe_int (fun _ _ => rfl)) pe_str (nomark _)) (pw_and1 (pt_val (pe_cd D_is_name (hr.mono (by first | decide | omega)) (by rfl) pass0 (pa_cons (pe_ix (ix_listK (K := K)) (pv 5) pe_int (fun _ _ => rfl)) pa_nil))))))) (pss_one (ps_expr (pe_md (pv 1) N_Draft_take_shape (hr.mono (by first | decide | omega)) pass0 (pa_cons (pv 3) (pa_cons (pe_ix (ix_listK (K := K)) (pv 5) pe_int (fun _ _ => rfl)) pa_nil))))) (pss_one (ps_if (PW.pt (pw_and (pt_cmpR op_gt (pe_callB (call_lenR (K := K)) (by rfl) z_len (by decide +kernel) (pa_cons (pv 5) pa_nil)) pe_int (nomark _)) (pw_and (pt_val (pe_cd D_is_name (hr.mono (by first | decide | omega)) (by rfl) pass0 (pa_cons (pe_ix (ix_listK (K := K)) (pv 5) pe_int (fun _ _ => rfl)) pa_nil))) (pw_and1 (pt_val (pe_cd D_is_form (hr.mono (by first | decide | omega)) (by rfl) pass0 (pa_cons (pe_slice (sl_listK (K := K)) (pv 5) (po_some pe_int) po_none) pa_nil))))))) (pss_one (ps_expr (pe_md (pv 1) N_Draft_take_field (hr.mono (by first | decide | omega)) pass0 (pa_cons (pv 3) (pa_cons (pv 5) pa_nil))))) (pss_one ps_never)))))))
      (pss_cons (ps_if (pt_cmpR (op_eqL hr.units (K := K)) (pe_fldK (pv 1) rfl (K := K)) (pe_lst pa_nil) (nomark _)) (pss_one ps_never) pss_nil)
      (pss_cons (ps_expr (pe_md0 (pv 1) N_Draft_end_shape (hr.mono (by first | decide | omega)) pass0))
      (pss_one (ps_ret (pe_mk M_Shapes (hr.mono (by first | decide | omega)) (by rfl) pass0 (pa_cons (pe_listVals rfl (by rfl) z_list (pe_fldK (pv 1) rfl (K := K))) pa_nil)))))))))), ?_⟩
    walk_at "rd"
    have w := ok.wf
    refine isiT thg_str (by decide) (iteN (by decide) ?_)
    refine Made.intro fun p dx H1 np s1 h1 => ⟨p, dx, rfl, h1, fun kd fl H2 o2 nk nf dO hk hf => ⟨rfl, ?_⟩⟩
    have s2 : Same H H2 := Same.off s1 np o2
    have npH := np
    have nkH : H kd = none := s1.free nk
    have nfH : H fl = none := s1.free nf
    have hsp : TL.spl [10] 0 [] (textT T) = linesT T := spl_join (c := 10) (sep := []) (linesT_ne ne) (clean_lines w)
    refine ⟨rfl, textT T, rfl, [10], e_lf, by decide, by decide, text_len w hl ne, New.intro fun ll H3 nl3 s3 g3 => ?_⟩
    rw [hsp] at g3
    have d3 : DSx ⟨C_Num, C_Nested, C_Many, C_Pick, C_Shape⟩ C_Draft H3 p kd fl [] [] [] [] := ⟨dO.same s3, s3 _ _ hk, ⟨[], s3 _ _ hf, .nil⟩, .nil⟩
    have nlf : ll ≠ fl := fun e => by
      rw [e, hf] at nl3
      cases nl3
    have toSame : ∀ {HA HB : Hp}, Same H HA → OffS [p, kd] HA HB → Same H HB := fun sA o b u h => o b u (fun m => by
      simp only [List.mem_cons, List.not_mem_nil, or_false] at m
      rcases m with rfl | rfl
      · rw [npH] at h
        cases h
      · rw [nkH] at h
        cases h) (sA b u h)
    refine ⟨⟨_, seq_of g3⟩, Loop.enum (xs := wds (linesT T)) (fun i σ HA => ∃ fl' Tc ss n fs y3 y4 y5, σ = [some (.str (S (textT T))), some (.ref p), some (.ref ll), y3, y4, y5] ∧ RS T i Tc n fs ∧ Same H HA ∧ HA ll = some (.lst (wds (linesT T))) ∧ ll ≠ fl' ∧ H fl' = none ∧ DSx ⟨C_Num, C_Nested, C_Many, C_Pick, C_Shape⟩ C_Draft HA p kd fl' Tc ss n fs) ⟨fl, [], [], [], [], _, _, _, rfl, .start, s2.trans s3, g3, nlf, nfH, d3⟩ ?_ ?_ ?_⟩
    · rintro i σ HA _ ⟨fl', Tc, ss, n, fs, y3, y4, y5, rfl, rs, sA, gA, nlA, nfA, dA⟩
      exact seq_of gA
    · rintro i x σ HA u HB hx ⟨fl', Tc, ss, n, fs, y3, y4, y5, rfl, rs, sA, gA, nlA, nfA, dA⟩ nu sB gu
      obtain ⟨line, hln, rfl⟩ : ∃ l, (linesT T)[i]? = some l ∧ x = .str (S l) := by
        unfold wds at hx
        rw [List.getElem?_map] at hx
        cases e : (linesT T)[i]? with
        | none =>
          rw [e] at hx
          cases hx
        | some l =>
          rw [e] at hx
          exact ⟨l, rfl, (Option.some.inj hx).symm⟩
      have llen : line.length ≤ 1700 := (linesT_len (wf_okT w ne)).2 line (List.mem_of_getElem? hln)
      refine two_at gu ?_
      walk_at "rd"
      refine ⟨rfl, line, rfl, [32], e_bl, by decide, by decide, by omega, New.intro fun l HC nc sC gC => ?_⟩
      have sAC := sB.trans sC
      have dC := dA.same sAC
      have sHC := sA.trans sAC
      have lC := sAC _ _ gA
      obtain ⟨⟨dxp, hp⟩, _, ⟨ysf, hfl, _⟩, _⟩ := id dC
      have nlf' : l ≠ fl' := fun e => by
        obtain ⟨_, _, ⟨ys0, h0, _⟩, _⟩ := id (dA.same sB)
        rw [e, h0] at nc
        cases nc
      rcases rs.next w hln with ⟨m, c, hc, rfl, hend, hfs, rs'⟩ | ⟨m, c, j, f, hc, hf', rfl, rfl, rfl, rfl, rs'⟩
      · have sw := w.2 m c hc
        rw [show TL.spl [32] 0 [] (lineS c.1) = [shapeW, c.1] from split_line (clean_lineS sw.name) (by simp)] at gC
        have hnl := isName_len sw.name
        have hml := (List.getElem?_eq_some_iff.mp hc).1
        obtain ⟨c1, c2, c3⟩ := rs.facts w ok.nd
        refine ⟨_, .inl (seq_of gC), iteP rfl ⟨_, seq_of gC, .str (S shapeW), atI_nat (j := 0) rfl, rfl, iteP (by rw [e_shape]) ⟨_, seq_of gC, .str (S c.1), atI_nat (j := 1) rfl, _, "str", rfl, .str _, fun z e => by cases e; rw [S_len]; omega, ?_⟩⟩⟩
        rw [show nameV (.str (S c.1)) = true from sw.name]
        refine ⟨true, rfl, iteP rfl ⟨_, _, hp, ldno (by decide +kernel) (by decide +kernel) (by decide +kernel), _, seq_of gC, .str (S c.1), atI_nat (j := 1) rfl, p, kd, fl', Tc, ss, n, fs, c.1, _, rfl, dC, by omega, by omega, c3, hfs, by rw [hend]; exact name_take ok.nd hc, fun fl2 ss2 H1 o1 nf2 d1 => ?_⟩⟩
        rw [hend] at d1
        refine ⟨fl2, _, ss2, _, _, rs', toSame sHC o1, o1 _ _ (fun m => ?_) lC, fun e => ?_, sHC.free nf2, d1⟩
        · simp only [List.mem_cons, List.not_mem_nil, or_false] at m
          rcases m with rfl | rfl
          · rw [hp] at lC
            cases lC
          · have := dC.k
            rw [lC] at this
            cases this
        · rw [← e, lC] at nf2
          cases nf2
      · have sw := w.2 m c hc
        obtain ⟨hfn, hfk⟩ := sw.each f (List.mem_of_getElem? hf')
        have hml := (List.getElem?_eq_some_iff.mp hc).1
        rw [show TL.spl [32] 0 [] (lineF T f) = f.1 :: wordsK T f.2 from split_line (clean_lineF w (Nat.le_of_lt hml) hfn hfk) (by simp)] at gC
        have hnl := isName_len hfn
        have hlenw : (wds (f.1 :: wordsK T f.2)).length = (wordsK T f.2).length + 1 := by rw [wds_len, List.length_cons]
        have hl1 := wordsK_len T f.2
        refine ⟨_, .inl (seq_of gC), ite2 (fun _ => ⟨_, seq_of gC, .str (S f.1), atI_nat (j := 0) rfl, rfl, iteN (sne e_shape (name_not hfn).2.2.2) ?b1⟩) (fun _ => ?b2)⟩
        case b1 | b2 =>
          refine ⟨_, .inl (seq_of gC), iteP (by rw [hlenw]; omega) ⟨_, seq_of gC, .str (S f.1), atI_nat (j := 0) rfl, _, "str", rfl, .str _, fun z e => by cases e; rw [S_len]; omega, ?_⟩⟩
          rw [show nameV (.str (S f.1)) = true from hfn]
          refine ⟨true, rfl, iteP rfl ⟨_, seq_of gC, New.intro fun r HD nr sD gD => ?_⟩⟩
          rw [show (some (1 : Int)) = some ((1 : Nat) : Int) from rfl, cut_fromW] at gD
          refine ⟨r, f.2, T, rfl, gD, w, hfk.mono (Nat.le_of_lt hml), rowD_ok hfk, fun HE sE => ⟨true, rfl, iteP rfl ?_⟩⟩
          have sCE := sD.trans sE
          have etake : c.2.take (j + 1) = c.2.take j ++ [(f.1, f.2)] := take_snoc hf'
          have lenm : (T.take m).length = m := by rw [List.length_take]; omega
          have hfit := ok.fits m c hc (j + 1) (by omega) (List.getElem?_eq_some_iff.mp hf').1
          rw [etake] at hfit
          refine ⟨_, _, sCE _ _ hp, ldno (by decide +kernel) (by decide +kernel) (by decide +kernel), p, kd, fl', l, T.take m, ss, c.1, c.2.take j, f.1, f.2, _, rfl, dC.same sCE, nlf', fun e => ?_, ?_, ?_, wf_take w m, by rw [lenm]; omega, ?_, ?_, ⟨sw.name, by simp, ?_, fun p hp => ?_⟩, hfit, fun H1 o1 d1 => ?_⟩
          · have := (isName_len sw.name).1
            rw [e] at this
            exact absurd this (by decide)
          · have := (isName_len sw.name).2.1
            omega
          · rw [wordsK_take hfk]
            exact sCE _ _ gC
          · rw [List.map_take]
            exact ok.nd.sublist (List.take_sublist _ _)
          · intro h
            obtain ⟨d, hd, e⟩ := List.mem_map.mp h
            obtain ⟨i', hi'⟩ := List.mem_iff_getElem?.mp hd
            rw [List.getElem?_take] at hi'
            split at hi'
            · rename_i g
              have e1 : (c.2.map (·.1))[i']? = some d.1 := by rw [List.getElem?_map, hi']; rfl
              have e2 : (c.2.map (·.1))[j]? = some f.1 := by rw [List.getElem?_map, hf']; rfl
              rw [e] at e1
              have := nd_ix (ok.fnd c (List.mem_of_getElem? hc)) e1 e2
              omega
            · cases hi'
          · show (c.2.take j ++ [(f.1, f.2)]).length ≤ 6
            rw [← etake, List.length_take]
            have := sw.len
            omega
          · rw [lenm]
            have hp : p ∈ c.2.take j ++ [(f.1, f.2)] := hp
            rw [← etake] at hp
            exact sw.each p (List.take_subset _ _ hp)
          · rw [← etake] at d1
            have toS : Same H H1 := fun b u h => o1 b u (fun m => by
              rw [List.mem_singleton.mp m, nfA] at h
              cases h) (sHC.trans sCE b u h)
            exact ⟨fl', _, ss, _, _, rs', toS, o1 _ _ (fun m => nlA (List.mem_singleton.mp m)) (sCE _ _ lC), nlA, nfA, d1⟩
    · rintro σ HA ⟨fl', Tc, ss, n, fs, y3, y4, y5, rfl, rs, sA, gA, nlA, nfA, dA⟩
      walk_at "rd"
      rw [wds_len] at rs
      obtain ⟨e1, e2, e3, m, e4, e5⟩ := rs.done w ne
      obtain ⟨⟨dxp, hp⟩, _, ⟨ysf, hfl, fa⟩, _⟩ := id dA
      have hlen := Paired.length fa
      obtain ⟨c1, c2, c3⟩ := rs.facts w ok.nd
      refine ⟨_, _, _, hp, K_Draft, A_Draft_fields, _, ldf, by decide, New.intro fun e0 HB nb sB gB => ⟨fl', rfl, _, seq_of (sB _ _ hfl), _, seq_of gB, .inl ⟨fun e => e3 (List.eq_nil_of_length_eq_zero (by rw [← hlen, e]; rfl)), _, _, sB _ _ hp, ldno (by decide +kernel) (by decide +kernel) (by decide +kernel), p, kd, fl', Tc, ss, n, fs, rfl, dA.same sB, by omega, by omega, c3, fun fl2 ss2 H1 o1 nf2 d1 => ?_⟩⟩⟩
      rw [e1] at d1
      obtain ⟨⟨dx1, hp1⟩, hk1, _, ta1⟩ := id d1
      have sH1 := toSame (sA.trans sB) o1
      refine ⟨_, _, _, hp1, K_Draft, A_Draft_known, _, ldk, kd, rfl, _, hk1, New.intro fun vl HD nv sD gD => ?_⟩
      rw [known_vals d1.len] at gD
      refine Made.intro fun r dxr HE nr sE hE => ⟨r, dxr, vl, _, rfl, hE, seq_of (sE _ _ gD), fun t HF oF nt ht hF => ⟨rfl, ?_⟩⟩
      have sDF : Same H1 HF := sD.trans (Same.off sE nr oF)
      exact q r dxr t ss2 HF (sH1.trans sDF) hF ht (ta1.same sDF)
end

end K10

set_option Elab.async false
set_option linter.all false
set_option pp.deepTerms true
set_option pp.maxSteps 100000
set_option format.indent 1
set_option format.width 260
set_option maxRecDepth 100000
set_option maxHeartbeats 4000000
set_option exponentiation.threshold 2000
namespace K10
open PySem PySem.Spec PyProof.Rows L2 Rb Rx SX Tx Rg Rt Rs Ru
local macro_rules | `(tactic| walk_at "rd") => `(tactic| simp only [L2.start, wMix, rRepr, rIsX, rIsXT, gSlAll, rEqS, rNeL, rNeV, rMulS, rEqL, rNotInT, rMax, tMethV, tListVals, tDGet, iEnum, tDIn, tDNotIn, sDPut, cxOf, tSeq, tAsg, tIfS, tTest, tB, tOp, tUn, tVar, tC, tCB, tCons, tNil, tRet, tRetN, tNext, tDrop, tBM, tBM0, tLst_n, tTup_n, tAnd, tOr, tNot, tAndV, tOrV, tNotV, tIf, tChain, tCall, gName, gTup, gCons, gNil, gUnl, gSub, rI, rI0, rU, rIxL, rIxT, rSlL_n, tSl, tPart, tNoPart, rCatR, rCatU, iEnumT, tOrT, rAppend_n, rExtend_n, rPop_n, rClear_n, rSetL_n, rInsert, rRemI_n, tMake_n, sFld_n, tFld, tMeth, rIn, tFor_n, tLc_n, iRngL1, iRngL2, iList, iTup, iRev, iZip, rDivmod, rListOf, rTupOf, rLenSeq, rMin2, rMax2, rAll, rAny, rIsi, tNever, tYes, wipe, tAug, ipI, rEq, rNe, tIsN, tNotN, tDNewK_n, tRz, tCallS, tMethX, tMakeX, tXfA, wAs, wOnly, tVeI, tOst, gSlS, iRng3, rSum, rStrI, rIsB, rNotB, rSlT, rIndex, rRep_n, rInt1, tLenSetS, scal_ii, scal_bb, scal_ss, scal_nn, scal_ni, scal_in, scal_ns, scal_sn, scal_is, scal_si, List.map_cons, List.map_nil, List.length_cons, List.length_nil, List.replicate, List.nil_append, List.cons_append, List.append_nil, List.getElem?_cons_zero, List.getElem?_cons_succ, List.set_cons_zero, List.set_cons_succ, List.set_nil, Nat.reduceAdd, Nat.reduceSub, Option.some.injEq, V.int.injEq, V.ref.injEq, V.bl.injEq, V.str.injEq, V.ty.injEq, List.cons.injEq, and_assoc, and_true, true_and, exists_eq_left, exists_eq_left', exists_and_left, exists_and_right, exists_eq, exists_eq', exists_eq_right, exists_eq_right', if_true, if_false, Bool.false_eq_true, Bool.not_true, Bool.not_false, if_pos, Int.toNat_natCast, decide_eq_true_eq, Bool.not_eq_true', decide_eq_false_iff_not, reduceCtorEq, false_and, and_false, exists_false, exists_const, rIxS, C8.rSlX, rJoinS, rSplitS, tBMS, rIndexX, iStr, tDisp, tPairs])
local macro_rules | `(tactic| walk_at "ex") => `(tactic| repeat' (first | assumption | (with_reducible refine Exists.intro _ ?_) | (with_reducible refine And.intro ?_ ?_) | rfl))

theorem sum_app (a b : List Int) : (a ++ b).sum = a.sum + b.sum := by
  induction a with
  | nil => simp
  | cons x r ih => rw [List.cons_append, List.sum_cons, List.sum_cons, ih]; omega
theorem asc_joined {p s : List Nat} (hp : ∀ c ∈ p, c < 128) (hs : ∀ c ∈ s, c < 128) : ∀ c ∈ joinedL p s, c < 128 := fun c hc => by
  unfold joinedL at hc
  split at hc
  · exact hs c hc
  · simp only [List.mem_append, List.mem_singleton] at hc
    rcases hc with (hc | rfl) | hc
    · exact hp c hc
    · decide
    · exact hs c hc
theorem tab_cnt {T : Tb} (ok : TabOk T) {i : Nat} (hi : i < T.length) : countK T 24 (.shp i) ≤ 40 := by
  have hc := List.getElem?_eq_getElem hi
  have f := ok.fits i _ hc T[i].2.length (List.length_pos_iff.mpr (ok.wf.2 i _ hc).ne) (Nat.le_refl _)
  rw [List.take_length] at f
  have lt : (T.take i).length = i := by rw [List.length_take]; omega
  have := (fits_cnt f).1
  rw [lt] at this
  have e : T = (T.take i ++ [(T[i].1, T[i].2)]) ++ T.drop (i + 1) := by
    rw [show (T[i].1, T[i].2) = T[i] from rfl, ← take_snoc hc, List.take_append_drop]
  have wt : WfT (T.take i ++ [(T[i].1, T[i].2)]) := by
    rw [show (T[i].1, T[i].2) = T[i] from rfl, ← take_snoc hc]
    exact wf_take ok.wf (i + 1)
  have e2 : countK T 24 (.shp i) = countK (T.take i ++ [(T[i].1, T[i].2)]) 24 (.shp i) := by
    have := countK_app (X := T.drop (i + 1)) wt 24 (i + 1) (.shp i) (by rw [List.length_append, lt, List.length_singleton]; omega) (Nat.lt_succ_self i)
    rw [← e] at this
    exact this
  rw [e2]
  exact this

/-! ### leaves, as data -/
/-- from the left on, with a number that grows -/
def scanF {α β : Type} (f : α → Int → List β) (sz : α → Int) : List α → Int → List β
  | [], _ => []
  | x :: r, o => f x o ++ scanF f sz r (o + sz x)
theorem scanF_app {α β : Type} {f : α → Int → List β} {sz : α → Int} : ∀ (l m : List α) (o : Int), scanF f sz (l ++ m) o = scanF f sz l o ++ scanF f sz m (o + (l.map sz).sum)
  | [], m, o => by
    show scanF f sz m o = [] ++ scanF f sz m (o + 0)
    rw [Int.add_zero]
    rfl
  | x :: r, m, o => by
    show f x o ++ scanF f sz (r ++ m) (o + sz x) = f x o ++ scanF f sz r (o + sz x) ++ scanF f sz m (o + (sz x + (r.map sz).sum))
    rw [scanF_app r m, List.append_assoc, Int.add_assoc]
theorem scanF_snoc {α β : Type} {f : α → Int → List β} {sz : α → Int} {l : List α} {i : Nat} {x : α} {o : Int} (h : l[i]? = some x) : scanF f sz (l.take (i + 1)) o = scanF f sz (l.take i) o ++ f x (o + ((l.take i).map sz).sum) := by
  rw [take_snoc h, scanF_app]
  show _ ++ (f x _ ++ []) = _
  rw [List.append_nil]
theorem scanF_le {α β : Type} {f : α → Int → List β} {sz : α → Int} {l : List α} {o : Int} (i : Nat) : (scanF f sz (l.take i) o).length ≤ (scanF f sz l o).length := by
  have e : scanF f sz l o = scanF f sz (l.take i ++ l.drop i) o := by rw [List.take_append_drop]
  rw [e, scanF_app, List.length_append]
  omega
theorem scanF_map {α β γ : Type} {f : α → Int → List β} {f' : α → Int → List γ} {sz : α → Int} {g : β → γ} {d : Int} : ∀ {l : List α} {o : Int}, (∀ x ∈ l, ∀ c, (f x c).map g = f' x (c + d)) → (scanF f sz l o).map g = scanF f' sz l (o + d)
  | [], _, _ => rfl
  | x :: r, o, h => by
    show (f x o ++ scanF f sz r (o + sz x)).map g = f' x (o + d) ++ scanF f' sz r (o + d + sz x)
    rw [List.map_append, h x List.mem_cons_self o, scanF_map (l := r) fun y hy => h y (List.mem_cons_of_mem _ hy), show o + sz x + d = o + d + sz x by omega]
theorem scanF_flat {α β : Type} {f : α → Int → List β} {f' : α → List β} {sz : α → Int} : ∀ {l : List α} {o : Int}, (∀ x ∈ l, ∀ c, f x c = f' x) → scanF f sz l o = l.flatMap f'
  | [], _, _ => rfl
  | x :: r, o, h => by
    show f x o ++ scanF f sz r (o + sz x) = (x :: r).flatMap f'
    rw [List.flatMap_cons, h x List.mem_cons_self o, scanF_flat (l := r) fun y hy => h y (List.mem_cons_of_mem _ hy)]
theorem scanF_mem {α β : Type} {f : α → Int → List β} {sz : α → Int} {y : β} : ∀ {l : List α} {o : Int}, y ∈ scanF f sz l o → ∃ x ∈ l, ∃ c, y ∈ f x c
  | [], _, h => absurd h List.not_mem_nil
  | x :: r, o, h => by
    rcases List.mem_append.mp h with h | h
    · exact ⟨x, List.mem_cons_self, o, h⟩
    · obtain ⟨z, hz, c, hc⟩ := scanF_mem (l := r) h
      exact ⟨z, List.mem_cons_of_mem _ hz, c, hc⟩
theorem joinedE_assoc (a b c : List Nat) : joinedE (joinedE a b) c = joinedE a (joinedE b c) := by
  unfold joinedE joinedL
  by_cases hc : c = []
  · simp [hc]
  · by_cases hb : b = []
    · simp [hb, hc]
    · by_cases ha : a = []
      · simp [ha, hb, hc]
      · simp [ha, hb, hc]
theorem joinedL_E {p q r : List Nat} (h : q ≠ []) : joinedE (joinedL p q) r = joinedE p (joinedE q r) := by
  rw [← joinedE_L h, joinedE_assoc]
theorem joinedL_ne {p q : List Nat} (h : q ≠ []) : joinedL p q ≠ [] := by
  unfold joinedL
  split
  · exact h
  · simp
theorem joinedE_len (p s : List Nat) : (joinedE p s).length ≤ p.length + 1 + s.length := by
  unfold joinedE
  split
  · omega
  · exact joinedL_len p s
/-- within a kind: path, width, offset, what holds it -/
structure Ins where
  p : List Nat
  w : Int
  o : Int
  h : List (List Nat × Int)
/-- path, width, unit, offset, what holds it -/
structure Lea where
  p : List Nat
  w : Int
  u : List Nat
  o : Int
  h : List (List Nat × Int)
def hold1 (s : List Nat) (q : List Nat × Int) : List Nat × Int := (joinedE s q.1, q.2)
def ahead1 (s : List Nat) (m : Int) (r : Ins) : Ins := ⟨joinedE s r.p, r.w, r.o + m, r.h.map (hold1 s)⟩
def chosen1 (c : Int) (r : Ins) : Ins := ⟨r.p, r.w, r.o, ([], c) :: r.h⟩
def insideK (T : Tb) : Nat → Kd → List Ins
  | 0, _ => []
  | _ + 1, .num w => [⟨[], (w : Int), 0, []⟩]
  | n + 1, .row m k => (List.range m).flatMap fun i => (insideK T n k).map (ahead1 (TL.numL i) ((i : Int) * sizeK T n k))
  | n + 1, .shp i => scanF (fun q c => (insideK T n q.2).map (ahead1 q.1 c)) (fun q => sizeK T n q.2) (flds T i) 0
  | n + 1, .pick is => ⟨tagW', 1, 0, []⟩ :: scanF (fun i c => ((insideK T n (.shp i)).map (ahead1 (nameT T i) 1)).map (chosen1 c)) (fun _ => 1) is 0
def mkLea (u : List Nat) (r : Ins) : Lea := ⟨r.p, r.w, u, r.o, r.h⟩
def leavesK (T : Tb) : Nat → Kd → List Nat → List Lea
  | 0, _, _ => []
  | _ + 1, .num w, p => [⟨p, (w : Int), p, 0, []⟩]
  | n + 1, .row m k, p => (List.range m).flatMap fun i => leavesK T n k (joinedL p (TL.numL i))
  | n + 1, .shp i, p => (flds T i).flatMap fun q => leavesK T n q.2 (joinedL p q.1)
  | n + 1, .pick is, p => (((insideK T (n + 1) (.pick is)).tail).map (ahead1 p (-1))).map (mkLea p)
def spreadK (T : Tb) : Nat → Kd → List Nat → List Nat → Int → List (List Nat × Int) → List Lea
  | 0, _, _, _, _, _ => []
  | _ + 1, .num w, p, u, o, h => if u = [] then [⟨p, (w : Int), p, 0, h⟩] else [⟨p, (w : Int), u, o, h⟩]
  | n + 1, .row m k, p, u, o, h => (List.range m).flatMap fun i => spreadK T n k (joinedL p (TL.numL i)) u (o + (i : Int) * sizeK T n k) h
  | n + 1, .shp i, p, u, o, h => scanF (fun q c => spreadK T n q.2 (joinedL p q.1) u c h) (fun q => sizeK T n q.2) (flds T i) o
  | n + 1, .pick is, p, u, o, h => (if u = [] then [] else [⟨joinedL p tagW', 1, u, o, h⟩]) ++ scanF (fun i c => spreadK T n (.shp i) (joinedL p (nameT T i)) (if u = [] then p else u) (if u = [] then 0 else o + 1) (h ++ [(p, c)])) (fun _ => 1) is 0
/-- an inside row as a leaf -/
def asLea (p u : List Nat) (o : Int) (h : List (List Nat × Int)) (r : Ins) : Lea := ⟨joinedE p r.p, r.w, u, o + r.o, h ++ r.h.map (hold1 p)⟩
theorem asLea_ahead {p q u : List Nat} {o m : Int} {h : List (List Nat × Int)} (hq : q ≠ []) (r : Ins) : asLea p u o h (ahead1 q m r) = asLea (joinedL p q) u (m + o) h r := by
  unfold asLea ahead1
  simp only [List.map_map]
  rw [joinedL_E hq, show o + (r.o + m) = m + o + r.o by omega]
  congr 2
  refine map_congr' fun x _ => ?_
  show hold1 p (hold1 q x) = hold1 (joinedL p q) x
  unfold hold1
  rw [joinedL_E hq]
theorem asLea_chosen {p u : List Nat} {o c : Int} {h : List (List Nat × Int)} (r : Ins) : asLea p u o h (chosen1 c r) = asLea p u o (h ++ [(p, c)]) r := by
  unfold asLea chosen1 
  simp only [List.map_cons, List.append_assoc, List.singleton_append]
  rw [show hold1 p ([], c) = (p, c) from by unfold hold1; rw [joinedE_nil]]
/-- within a unit, spread is what is inside, ahead of it the path -/
theorem spread_inside {T : Tb} (hN : ∀ i, i < T.length → nameT T i ≠ []) : ∀ {n : Nat} {k : Kd} {p u : List Nat} {o : Int} {h : List (List Nat × Int)}, Rk T n k → u ≠ [] → spreadK T n k p u o h = (insideK T n k).map (asLea p u o h)
  | 0, _, _, _, _, _, r, _ => r.elim
  | _ + 1, .num w, p, u, o, h, _, hu => by
    show (if u = [] then _ else [_]) = [asLea p u o h ⟨[], (w : Int), 0, []⟩]
    rw [if_neg hu]
    unfold asLea
    simp only [List.map_nil, List.append_nil]
    rw [joinedE_nil, Int.add_zero]
  | n + 1, .row m k, p, u, o, h, r, hu => by
    show ((List.range m).flatMap fun i => spreadK T n k (joinedL p (TL.numL i)) u (o + (i : Int) * sizeK T n k) h) = ((List.range m).flatMap fun i => (insideK T n k).map (ahead1 (TL.numL i) ((i : Int) * sizeK T n k))).map (asLea p u o h)
    rw [List.map_flatMap]
    congr 1
    funext i
    rw [spread_inside hN r.2 hu, List.map_map]
    refine map_congr' fun x _ => ?_
    show _ = asLea p u o h (ahead1 (TL.numL i) ((i : Int) * sizeK T n k) x)
    rw [asLea_ahead (TL.numL_ne i), Int.add_comm]
  | n + 1, .shp i, p, u, o, h, r, hu => by
    show scanF _ _ (flds T i) o = (scanF _ _ (flds T i) 0).map (asLea p u o h)
    rw [scanF_map (d := o) (f' := fun q c => spreadK T n q.2 (joinedL p q.1) u c h), Int.zero_add]
    intro q hq c
    obtain ⟨_, r2, r3⟩ := r.2.2.2.2 q hq
    show _ = spreadK T n q.2 (joinedL p q.1) u (c + o) h
    rw [spread_inside hN r3 hu, List.map_map]
    refine map_congr' fun x _ => ?_
    show asLea p u o h (ahead1 q.1 c x) = _
    rw [asLea_ahead r2]
  | n + 1, .pick is, p, u, o, h, r, hu => by
    show (if u = [] then [] else [(⟨joinedL p tagW', 1, u, o, h⟩ : Lea)]) ++ scanF (fun i c => spreadK T n (.shp i) (joinedL p (nameT T i)) (if u = [] then p else u) (if u = [] then 0 else o + 1) (h ++ [(p, c)])) (fun _ => 1) is 0 = (⟨tagW', 1, 0, []⟩ :: scanF (fun i c => ((insideK T n (.shp i)).map (ahead1 (nameT T i) 1)).map (chosen1 c)) (fun _ => 1) is 0).map (asLea p u o h)
    simp only [if_neg hu]
    rw [List.map_cons, List.singleton_append]
    congr 1
    · unfold asLea
      simp only [List.map_nil, List.append_nil]
      rw [joinedE_L (by decide), Int.add_zero]
    · have := scanF_map (l := is) (o := 0) (d := 0) (sz := fun _ => 1) (g := asLea p u o h) (f := fun i c => ((insideK T n (.shp i)).map (ahead1 (nameT T i) 1)).map (chosen1 c)) (f' := fun i c => spreadK T n (.shp i) (joinedL p (nameT T i)) u (o + 1) (h ++ [(p, c)])) (fun i hi c => by
        rw [Int.add_zero]
        have ri := r.2.2 i hi
        have hi' : i < T.length := by
          cases n with
          | zero => exact ri.elim
          | succ n => exact ri.1
        rw [spread_inside hN ri hu, List.map_map, List.map_map]
        refine map_congr' fun x _ => ?_
        show asLea p u o h (chosen1 c (ahead1 (nameT T i) 1 x)) = _
        rw [asLea_chosen, asLea_ahead (hN i hi'), Int.add_comm])
      rw [Int.add_zero] at this
      exact this.symm
theorem spread_leaves {T : Tb} (hN : ∀ i, i < T.length → nameT T i ≠ []) : ∀ {n : Nat} {k : Kd} {p : List Nat} {o : Int}, Rk T n k → (p ≠ [] ∨ isShpK k = true) → spreadK T n k p [] o [] = leavesK T n k p
  | 0, _, _, _, r, _ => r.elim
  | _ + 1, .num w, p, o, _, _ => rfl
  | n + 1, .row m k, p, o, r, hp => by
    show ((List.range m).flatMap fun i => _) = (List.range m).flatMap fun i => _
    congr 1
    funext i
    exact spread_leaves hN r.2 (.inl (joinedL_ne (TL.numL_ne i)))
  | n + 1, .shp i, p, o, r, hp => by
    show scanF _ _ (flds T i) o = (flds T i).flatMap _
    exact scanF_flat fun q hq c => spread_leaves hN (r.2.2.2.2 q hq).2.2 (.inl (joinedL_ne (r.2.2.2.2 q hq).2.1))
  | n + 1, .pick is, p, o, r, hp => by
    have hp : p ≠ [] := hp.resolve_right (fun h => by cases h)
    show [] ++ scanF (fun i c => spreadK T n (.shp i) (joinedL p (nameT T i)) p 0 [(p, c)]) (fun _ => 1) is 0 = ((scanF (fun i c => ((insideK T n (.shp i)).map (ahead1 (nameT T i) 1)).map (chosen1 c)) (fun _ => 1) is 0).map (ahead1 p (-1))).map (mkLea p)
    rw [List.nil_append, List.map_map]
    have := scanF_map (l := is) (o := 0) (d := 0) (sz := fun _ => 1) (g := mkLea p ∘ ahead1 p (-1)) (f := fun i c => ((insideK T n (.shp i)).map (ahead1 (nameT T i) 1)).map (chosen1 c)) (f' := fun i c => spreadK T n (.shp i) (joinedL p (nameT T i)) p 0 [(p, c)]) (fun i hi c => by
      rw [Int.add_zero]
      have ri := r.2.2 i hi
      have hi' : i < T.length := by
        cases n with
        | zero => exact ri.elim
        | succ n => exact ri.1
      rw [spread_inside hN ri hp, List.map_map, List.map_map]
      refine map_congr' fun x _ => ?_
      show mkLea p (ahead1 p (-1) (chosen1 c (ahead1 (nameT T i) 1 x))) = _
      have e1 : ∀ y : Ins, mkLea p (ahead1 p (-1) y) = asLea p p (-1) [] y := fun y => by
        unfold mkLea ahead1 asLea
        rw [List.nil_append, Int.add_comm]
      rw [e1, asLea_chosen, asLea_ahead (hN i hi')]
      rfl)
    rw [Int.add_zero] at this
    exact this.symm
/-! how many, how long -/
theorem scanF_len {α β : Type} {f : α → Int → List β} {sz : α → Int} {g : α → Nat} : ∀ {l : List α} {o : Int}, (∀ x ∈ l, ∀ c, (f x c).length ≤ g x) → (scanF f sz l o).length ≤ (l.map g).sum
  | [], _, _ => Nat.le_refl _
  | x :: r, o, h => by
    show (f x o ++ scanF f sz r (o + sz x)).length ≤ g x + (r.map g).sum
    rw [List.length_append]
    have := h x List.mem_cons_self o
    have := scanF_len (l := r) (o := o + sz x) (f := f) (sz := sz) (g := g) fun y hy => h y (List.mem_cons_of_mem _ hy)
    omega
def Cb : Nat → Nat
  | 0 => 1
  | 1 => 1
  | 2 => 41
  | _ => 2461
theorem Cb_le {m n : Nat} (h : m ≤ n) : Cb m ≤ Cb n := by
  rcases m with _ | _ | _ | m <;> rcases n with _ | _ | _ | n <;> first | decide | omega | exact (by decide : (41 : Nat) ≤ 2461) | exact (by decide : (1 : Nat) ≤ 2461) | exact Nat.le_refl _
theorem Cb_pos (m : Nat) : 1 ≤ Cb m := Cb_le (Nat.zero_le m)
theorem nd_len : ∀ {m : Nat} {l : List Nat}, l.Nodup → (∀ i ∈ l, i < m) → l.length ≤ m
  | 0, [], _, _ => Nat.le_refl _
  | 0, a :: _, _, h => absurd (h a List.mem_cons_self) (Nat.not_lt_zero _)
  | m + 1, l, nd, h => by
    have h1 : (l.erase m).length ≤ m := nd_len (nd.erase m) fun i hi => by
      have := (nd.mem_erase_iff).mp hi
      have := h i this.2
      omega
    have := List.length_erase_le (a := m) (l := l)
    by_cases g : m ∈ l
    · rw [List.length_erase_of_mem g] at h1
      omega
    · rw [List.erase_of_not_mem g] at h1
      omega
theorem sum_mul_le {α : Type} {f g : α → Nat} {c : Nat} : ∀ {l : List α}, (∀ x ∈ l, f x ≤ g x * c) → (l.map f).sum ≤ (l.map g).sum * c
  | [], _ => by simp
  | x :: r, h => by
    rw [List.map_cons, List.map_cons, List.sum_cons, List.sum_cons, Nat.add_mul]
    have := h x List.mem_cons_self
    have := sum_mul_le (l := r) fun y hy => h y (List.mem_cons_of_mem _ hy)
    omega
theorem ins_len {T : Tb} (w : WfT T) (hc : ∀ i, i < T.length → countK T 24 (.shp i) ≤ 40) (h4 : T.length ≤ 4) : ∀ {n : Nat}, n ≤ 24 → (∀ i, Rk T n (.shp i) → (insideK T n (.shp i)).length ≤ countK T n (.shp i) * Cb i) ∧ ∀ m k, m ≤ 3 → KOk m k → Rk T n k → (insideK T n k).length ≤ countK T n k * Cb m
  | 0, _ => ⟨fun _ h => h.elim, fun _ _ _ _ h => h.elim⟩
  | n + 1, hn => by
    obtain ⟨ihA, ihB⟩ := ins_len w hc h4 (n := n) (by omega)
    have A : ∀ i, Rk T (n + 1) (.shp i) → (insideK T (n + 1) (.shp i)).length ≤ countK T (n + 1) (.shp i) * Cb i := fun i r => by
      have e := List.getElem?_eq_getElem r.1
      refine Nat.le_trans (scanF_len (g := fun q : List Nat × Kd => (insideK T n q.2).length) fun q hq c => by rw [List.length_map]; exact Nat.le_refl _) ?_
      exact sum_mul_le (g := fun q : List Nat × Kd => countK T n q.2) fun q hq => ihB i q.2 (by have := r.1; omega) ((w.2 i _ e).each q (by rw [← flds_at e]; exact hq)).2 (r.2.2.2.2 q hq).2.2
    refine ⟨A, fun m k hm hk r => ?_⟩
    cases k with
    | num x => exact (Nat.one_mul (Cb m)).symm ▸ Cb_pos m
    | shp i => exact Nat.le_trans (A i r) (Nat.mul_le_mul_left _ (Cb_le (by have : i < m := hk; omega)))
    | row c k =>
      show ((List.range c).flatMap fun i => (insideK T n k).map (ahead1 (TL.numL i) ((i : Int) * sizeK T n k))).length ≤ c * countK T n k * Cb m
      rw [List.length_flatMap, map_congr' (g := fun _ => (insideK T n k).length) fun i _ => by rw [List.length_map], List.map_const', List.length_range, sum_rep, Nat.mul_assoc]
      refine Nat.mul_le_mul_left _ (ihB m k hm ?_ r.2)
      rcases hk.2.2 with ⟨w', rfl, h4, h5⟩ | ⟨i, rfl, hi⟩
      · exact ⟨h4, h5⟩
      · exact hi
    | pick is =>
      obtain ⟨h1, h2, h3, h5⟩ := hk
      have hl := nd_len h3 h5
      show (_ :: scanF _ _ is 0).length ≤ 2 * Cb m
      rw [List.length_cons]
      have := scanF_len (f := fun i c => ((insideK T n (.shp i)).map (ahead1 (nameT T i) 1)).map (chosen1 c)) (sz := fun _ => 1) (l := is) (o := 0) (g := fun _ => 40 * Cb (m - 1)) fun i hi c => by
        rw [List.length_map, List.length_map]
        have ri := r.2.2 i hi
        have h40 : countK T n (.shp i) ≤ 40 := by
          rw [← countK_le ri (show n ≤ 24 by omega)]
          cases n with
          | zero => exact ri.elim
          | succ n => exact hc i ri.1
        exact Nat.le_trans (ihA i ri) (Nat.mul_le_mul h40 (Cb_le (by have := h5 i hi; omega)))
      rw [List.map_const', sum_rep] at this
      obtain rfl | rfl : m = 2 ∨ m = 3 := by omega
      · have := Nat.mul_le_mul_right (40 * Cb (2 - 1)) hl
        have e1 : Cb (2 - 1) = 1 := rfl
        have e2 : Cb 2 = 41 := rfl
        rw [e2]
        omega
      · have := Nat.mul_le_mul_right (40 * Cb (3 - 1)) hl
        have e1 : Cb (3 - 1) = 41 := rfl
        have e2 : Cb 3 = 2461 := rfl
        rw [e2]
        omega
theorem ins_len24 {T : Tb} (ok : TabOk T) (h4 : T.length ≤ 4) {i : Nat} (hi : i < T.length) : (insideK T 24 (.shp i)).length ≤ 100000 := by
  have hc : ∀ i, i < T.length → countK T 24 (.shp i) ≤ 40 := fun i hi => tab_cnt ok hi
  have h := (ins_len ok.wf hc h4 (n := 24) (Nat.le_refl _)).1 i (wf_24 ok.wf hi)
  have := Nat.mul_le_mul (hc i hi) (Cb_le (show i ≤ 3 by omega))
  have e : Cb 3 = 2461 := rfl
  rw [e] at this
  omega
theorem sum_le_map {α : Type} {f g : α → Nat} : ∀ {l : List α}, (∀ x ∈ l, f x ≤ g x) → (l.map f).sum ≤ (l.map g).sum
  | [], _ => Nat.le_refl _
  | x :: r, h => by
    rw [List.map_cons, List.map_cons, List.sum_cons, List.sum_cons]
    have := h x List.mem_cons_self
    have := sum_le_map (l := r) fun y hy => h y (List.mem_cons_of_mem _ hy)
    omega
theorem scanF_leneq {α β : Type} {f : α → Int → List β} {sz : α → Int} {g : α → Nat} : ∀ {l : List α} {o : Int}, (∀ x ∈ l, ∀ c, (f x c).length = g x) → (scanF f sz l o).length = (l.map g).sum
  | [], _, _ => rfl
  | x :: r, o, h => by
    show (f x o ++ scanF f sz r (o + sz x)).length = g x + (r.map g).sum
    rw [List.length_append, h x List.mem_cons_self o, scanF_leneq (l := r) fun y hy => h y (List.mem_cons_of_mem _ hy)]
theorem leaves_len {T : Tb} : ∀ {n : Nat} {k : Kd} {p : List Nat}, (leavesK T n k p).length ≤ (insideK T n k).length
  | 0, _, _ => Nat.le_refl _
  | _ + 1, .num _, _ => Nat.le_refl _
  | n + 1, .row m k, p => by
    show ((List.range m).flatMap fun i => leavesK T n k (joinedL p (TL.numL i))).length ≤ ((List.range m).flatMap fun i => (insideK T n k).map (ahead1 (TL.numL i) ((i : Int) * sizeK T n k))).length
    rw [List.length_flatMap, List.length_flatMap]
    exact sum_le_map fun i _ => by rw [List.length_map]; exact leaves_len
  | n + 1, .shp i, p => by
    show ((flds T i).flatMap fun q => leavesK T n q.2 (joinedL p q.1)).length ≤ (scanF (fun q c => (insideK T n q.2).map (ahead1 q.1 c)) (fun q => sizeK T n q.2) (flds T i) 0).length
    rw [List.length_flatMap, scanF_leneq (g := fun q : List Nat × Kd => (insideK T n q.2).length) fun q _ c => by rw [List.length_map]]
    exact sum_le_map fun q _ => leaves_len
  | n + 1, .pick is, p => by
    show ((((insideK T (n + 1) (.pick is)).tail).map (ahead1 p (-1))).map (mkLea p)).length ≤ _
    rw [List.length_map, List.length_map, List.length_tail]
    omega
/-- short paths -/
def InsB (b : Nat) (r : Ins) : Prop := r.p.length ≤ b ∧ r.h.length ≤ b ∧ ∀ q ∈ r.h, q.1.length ≤ b
theorem InsB.mono {a b : Nat} {r : Ins} (h : InsB a r) (l : a ≤ b) : InsB b r := ⟨by have := h.1; omega, by have := h.2.1; omega, fun q hq => by have := h.2.2 q hq; omega⟩
theorem ahead_b {s : List Nat} {m : Int} {b : Nat} {r : Ins} (h : InsB b r) (hs : s.length ≤ 10) : InsB (b + 11) (ahead1 s m r) := by
  refine ⟨?_, ?_, fun q hq => ?_⟩
  · have := joinedE_len s r.p
    have := h.1
    show (joinedE s r.p).length ≤ b + 11
    omega
  · show (r.h.map (hold1 s)).length ≤ b + 11
    rw [List.length_map]
    have := h.2.1
    omega
  · obtain ⟨x, hx, rfl⟩ := List.mem_map.mp hq
    have := joinedE_len s x.1
    have := h.2.2 x hx
    show (joinedE s x.1).length ≤ b + 11
    omega
theorem chosen_b {c : Int} {b : Nat} {r : Ins} (h : InsB b r) : InsB (b + 1) (chosen1 c r) := by
  refine ⟨by have := h.1; show r.p.length ≤ b + 1; omega, by have := h.2.1; show r.h.length + 1 ≤ b + 1; omega, fun q hq => ?_⟩
  rcases List.mem_cons.mp hq with rfl | hq
  · exact Nat.zero_le _
  · have := h.2.2 q hq
    omega
theorem ins_b {T : Tb} : ∀ {n : Nat} {k : Kd}, Rk T n k → ∀ r ∈ insideK T n k, InsB (12 * n) r
  | 0, _, h => h.elim
  | n + 1, .num w, _ => fun r hr => by
    obtain rfl := List.mem_singleton.mp hr
    exact ⟨Nat.zero_le _, Nat.zero_le _, fun q hq => absurd hq List.not_mem_nil⟩
  | n + 1, .row m k, h => fun r hr => by
    obtain ⟨i, hi, hr⟩ := List.mem_flatMap.mp hr
    obtain ⟨x, hx, rfl⟩ := List.mem_map.mp hr
    have h3 := numL_3 (i := i) (by have := List.mem_range.mp hi; have := h.1; omega)
    exact (ahead_b (ins_b h.2 x hx) (by omega)).mono (by omega)
  | n + 1, .shp i, h => fun r hr => by
    obtain ⟨q, hq, c, hr⟩ := scanF_mem hr
    obtain ⟨x, hx, rfl⟩ := List.mem_map.mp hr
    obtain ⟨r1, _, r3⟩ := h.2.2.2.2 q hq
    exact (ahead_b (ins_b r3 x hx) r1).mono (by omega)
  | n + 1, .pick is, h => fun r hr => by
    rcases List.mem_cons.mp hr with rfl | hr
    · exact ⟨show (3 : Nat) ≤ 12 * (n + 1) by omega, Nat.zero_le _, fun q hq => absurd hq List.not_mem_nil⟩
    · obtain ⟨i, hi, c, hr⟩ := scanF_mem hr
      obtain ⟨y, hy, rfl⟩ := List.mem_map.mp hr
      obtain ⟨x, hx, rfl⟩ := List.mem_map.mp hy
      have ri := h.2.2 i hi
      have hn : (nameT T i).length ≤ 10 := by
        cases n with
        | zero => exact ri.elim
        | succ n => exact ri.2.1
      exact (chosen_b (ahead_b (ins_b ri x hx) hn)).mono (by omega)
/-! all signs are plain -/
def Asc (l : List Nat) : Prop := ∀ c ∈ l, c < 128
def InsA (r : Ins) : Prop := Asc r.p ∧ ∀ q ∈ r.h, Asc q.1
def LeaA (r : Lea) : Prop := Asc r.p ∧ Asc r.u ∧ ∀ q ∈ r.h, Asc q.1
theorem asc_nil : Asc [] := fun c hc => absurd hc List.not_mem_nil
theorem asc_joinedE {p s : List Nat} (hp : Asc p) (hs : Asc s) : Asc (joinedE p s) := by
  unfold joinedE
  split
  · exact hp
  · exact asc_joined hp hs
theorem ahead_a {s : List Nat} {m : Int} {r : Ins} (h : InsA r) (hs : Asc s) : InsA (ahead1 s m r) := ⟨asc_joinedE hs h.1, fun q hq => by
  obtain ⟨x, hx, rfl⟩ := List.mem_map.mp hq
  exact asc_joinedE hs (h.2 x hx)⟩
theorem ins_a {T : Tb} (w : WfT T) : ∀ {n : Nat} {k : Kd}, Rk T n k → ∀ r ∈ insideK T n k, InsA r
  | 0, _, h => h.elim
  | n + 1, .num w, _ => fun r hr => by
    obtain rfl := List.mem_singleton.mp hr
    exact ⟨asc_nil, fun q hq => absurd hq List.not_mem_nil⟩
  | n + 1, .row m k, h => fun r hr => by
    obtain ⟨i, hi, hr⟩ := List.mem_flatMap.mp hr
    obtain ⟨x, hx, rfl⟩ := List.mem_map.mp hr
    exact ahead_a (ins_a w h.2 x hx) (asc_numL i)
  | n + 1, .shp i, h => fun r hr => by
    obtain ⟨q, hq, c, hr⟩ := scanF_mem hr
    obtain ⟨x, hx, rfl⟩ := List.mem_map.mp hr
    have e := List.getElem?_eq_getElem h.1
    exact ahead_a (ins_a w (h.2.2.2.2 q hq).2.2 x hx) (asc_name ((w.2 i _ e).each q (by rw [← flds_at e]; exact hq)).1)
  | n + 1, .pick is, h => fun r hr => by
    rcases List.mem_cons.mp hr with rfl | hr
    · exact ⟨(by decide : ∀ c ∈ tagW', c < 128), fun q hq => absurd hq List.not_mem_nil⟩
    · obtain ⟨i, hi, c, hr⟩ := scanF_mem hr
      obtain ⟨y, hy, rfl⟩ := List.mem_map.mp hr
      obtain ⟨x, hx, rfl⟩ := List.mem_map.mp hy
      have ri := h.2.2 i hi
      have hi' : i < T.length := by
        cases n with
        | zero => exact ri.elim
        | succ n => exact ri.1
      have hn : Asc (nameT T i) := by
        have e := List.getElem?_eq_getElem hi'
        rw [name_at e]
        exact asc_name (w.2 i _ e).name
      have := ahead_a (m := 1) (ins_a w ri x hx) hn
      refine ⟨this.1, fun q hq => ?_⟩
      rcases List.mem_cons.mp hq with rfl | hq
      · exact asc_nil
      · exact this.2 q hq
theorem leaves_a {T : Tb} (w : WfT T) : ∀ {n : Nat} {k : Kd} {p : List Nat}, Rk T n k → Asc p → ∀ r ∈ leavesK T n k p, LeaA r
  | 0, _, _, h, _ => h.elim
  | n + 1, .num w, p, _, hp => fun r hr => by
    obtain rfl := List.mem_singleton.mp hr
    exact ⟨hp, hp, fun q hq => absurd hq List.not_mem_nil⟩
  | n + 1, .row m k, p, h, hp => fun r hr => by
    obtain ⟨i, hi, hr⟩ := List.mem_flatMap.mp hr
    exact leaves_a w h.2 (asc_joined hp (asc_numL i)) r hr
  | n + 1, .shp i, p, h, hp => fun r hr => by
    obtain ⟨q, hq, hr⟩ := List.mem_flatMap.mp hr
    have e := List.getElem?_eq_getElem h.1
    exact leaves_a w (h.2.2.2.2 q hq).2.2 (asc_joined hp (asc_name ((w.2 i _ e).each q (by rw [← flds_at e]; exact hq)).1)) r hr
  | n + 1, .pick is, p, h, hp => fun r hr => by
    obtain ⟨y, hy, rfl⟩ := List.mem_map.mp hr
    obtain ⟨x, hx, rfl⟩ := List.mem_map.mp hy
    have a := ahead_a (m := -1) (ins_a w h x (List.mem_of_mem_tail hx)) hp
    exact ⟨a.1, hp, a.2⟩

/-! ### few leaves -/
def Dm : Nat → Nat
  | 0 => 1
  | 1 => 1
  | 2 => 2
  | _ => 4
theorem Dm_le {m n : Nat} (h : m ≤ n) : Dm m ≤ Dm n := by
  rcases m with _ | _ | _ | m <;> rcases n with _ | _ | _ | n <;> first | decide | omega | exact (by decide : (2 : Nat) ≤ 4) | exact (by decide : (1 : Nat) ≤ 4) | exact Nat.le_refl _
theorem Dm_pos (m : Nat) : 1 ≤ Dm m := Dm_le (Nat.zero_le m)
/-- the shapes ahead of m, all together -/
theorem Dm_sum {m : Nat} (hm : m ≤ 3) {is : List Nat} (nd : is.Nodup) (h : ∀ i ∈ is, i < m) : (is.map Dm).sum ≤ Dm m := by
  have aux : ∀ (l : List Nat), l.Nodup → (∀ i ∈ l, i < m) → (l.map Dm).sum ≤ ((List.range m).map Dm).sum := fun l nd h => by
    have p : (l ++ (List.range m).filter fun i => decide (i ∉ l)).Perm (List.range m) := by
      refine (List.perm_ext_iff_of_nodup ?_ List.nodup_range).mpr fun a => ?_
      · refine List.nodup_append.mpr ⟨nd, List.nodup_range.filter _, fun a ha b hb e => ?_⟩
        have := (List.mem_filter.mp hb).2
        rw [decide_eq_true_eq] at this
        exact this (e ▸ ha)
      · rw [List.mem_append, List.mem_filter, List.mem_range, decide_eq_true_eq]
        constructor
        · rintro (ha | ha)
          · exact h a ha
          · exact ha.1
        · intro ha
          by_cases g : a ∈ l
          · exact .inl g
          · exact .inr ⟨ha, g⟩
    have := (p.map Dm).sum_nat
    rw [List.map_append, List.sum_append] at this
    omega
  refine Nat.le_trans (aux is nd h) ?_
  have : ∀ m ≤ 3, ((List.range m).map Dm).sum ≤ Dm m := by decide
  exact this m hm
theorem size_pos {T : Tb} (w : WfT T) : ∀ {n : Nat} {k : Kd} {m : Nat}, KOk m k → m ≤ T.length → Rk T n k → 1 ≤ sizeK T n k
  | 0, _, _, _, _, r => r.elim
  | n + 1, .num x, _, hk, _, _ => by
    show (1 : Int) ≤ (x : Int)
    have := hk.1
    omega
  | n + 1, .row c k, m, hk, hm, r => by
    have : 1 ≤ sizeK T n k := by
      rcases hk.2.2 with ⟨w', rfl, h4, h5⟩ | ⟨i, rfl, hi⟩
      · exact size_pos w (k := .num w') (m := m) ⟨h4, h5⟩ hm r.2
      · exact size_pos w (k := .shp i) (m := m) hi hm r.2
    show (1 : Int) ≤ (c : Int) * sizeK T n k
    have h1 : (1 : Int) ≤ (c : Int) := by have := hk.1; omega
    have := Int.mul_le_mul h1 this (by decide) (by omega)
    omega
  | n + 1, .shp i, _, _, _, r => by
    have e := List.getElem?_eq_getElem r.1
    have hq : ∀ q ∈ flds T i, 1 ≤ sizeK T n q.2 := fun q hq => size_pos w ((w.2 i _ e).each q (by rw [← flds_at e]; exact hq)).2 (Nat.le_of_lt r.1) (r.2.2.2.2 q hq).2.2
    show (1 : Int) ≤ ((flds T i).map fun p => sizeK T n p.2).sum
    have hne := r.2.2.2.1
    cases hf : flds T i with
    | nil => exact absurd hf hne
    | cons q l =>
      rw [hf] at hq
      rw [List.map_cons, List.sum_cons]
      have h1 := hq q List.mem_cons_self
      have h2 : ∀ l : List (List Nat × Kd), 0 ≤ (l.map fun p => sizeK T n p.2).sum := fun l => by
        induction l with
        | nil => exact Int.le_refl _
        | cons a r ih =>
          rw [List.map_cons, List.sum_cons]
          have := sizeK_nn T n a.2
          omega
      have := h2 l
      omega
  | n + 1, .pick is, _, _, _, _ => by
    show (1 : Int) ≤ 1 + maxL _
    have := maxL_nn (is.map fun i => sizeK T n (.shp i))
    omega
theorem sum_mul_leI {α : Type} {f : α → Nat} {g : α → Int} {c : Int} : ∀ {l : List α}, (∀ x ∈ l, (f x : Int) ≤ g x * c) → ((l.map f).sum : Int) ≤ (l.map g).sum * c
  | [], _ => by simp
  | x :: r, h => by
    rw [List.map_cons, List.map_cons, List.sum_cons, List.sum_cons, Int.add_mul]
    have := h x List.mem_cons_self
    have := sum_mul_leI (l := r) fun y hy => h y (List.mem_cons_of_mem _ hy)
    omega
theorem ins_few {T : Tb} (w : WfT T) (h4 : T.length ≤ 4) : ∀ {n : Nat}, (∀ i, Rk T n (.shp i) → ((insideK T n (.shp i)).length : Int) ≤ sizeK T n (.shp i) * (Dm i : Int)) ∧ ∀ m k, m ≤ 3 → KOk m k → Rk T n k → ((insideK T n k).length : Int) ≤ sizeK T n k * (Dm m : Int)
  | 0 => ⟨fun _ h => h.elim, fun _ _ _ _ h => h.elim⟩
  | n + 1 => by
    obtain ⟨ihA, ihB⟩ := ins_few w h4 (n := n)
    have A : ∀ i, Rk T (n + 1) (.shp i) → ((insideK T (n + 1) (.shp i)).length : Int) ≤ sizeK T (n + 1) (.shp i) * (Dm i : Int) := fun i r => by
      have e := List.getElem?_eq_getElem r.1
      have h1 := scanF_len (f := fun (q : List Nat × Kd) c => (insideK T n q.2).map (ahead1 q.1 c)) (sz := fun q => sizeK T n q.2) (l := flds T i) (o := 0) (g := fun q : List Nat × Kd => (insideK T n q.2).length) fun q hq c => by rw [List.length_map]; exact Nat.le_refl _
      refine Int.le_trans (Int.ofNat_le.mpr h1) ?_
      exact sum_mul_leI (f := fun q : List Nat × Kd => (insideK T n q.2).length) (g := fun q : List Nat × Kd => sizeK T n q.2) fun q hq => ihB i q.2 (by have := r.1; omega) ((w.2 i _ e).each q (by rw [← flds_at e]; exact hq)).2 (r.2.2.2.2 q hq).2.2
    refine ⟨A, fun m k hm hk r => ?_⟩
    have dp := Dm_pos m
    cases k with
    | num x =>
      show (1 : Int) ≤ (x : Int) * (Dm m : Int)
      have h1 : (1 : Int) ≤ (x : Int) := by have := hk.1; omega
      have h2 : (1 : Int) ≤ (Dm m : Int) := by omega
      have := Int.mul_le_mul h1 h2 (by decide) (by omega)
      omega
    | shp i =>
      refine Int.le_trans (A i r) (Int.mul_le_mul_of_nonneg_left (Int.ofNat_le.mpr (Dm_le (by have : i < m := hk; omega))) (sizeK_nn T (n + 1) (.shp i)))
    | row c k =>
      show (((List.range c).flatMap fun i => (insideK T n k).map (ahead1 (TL.numL i) ((i : Int) * sizeK T n k))).length : Int) ≤ (c : Int) * sizeK T n k * (Dm m : Int)
      rw [List.length_flatMap, map_congr' (g := fun _ => (insideK T n k).length) fun i _ => by rw [List.length_map], List.map_const', List.length_range, sum_rep, Int.mul_assoc, Int.natCast_mul]
      refine Int.mul_le_mul_of_nonneg_left (ihB m k hm ?_ r.2) (Int.natCast_nonneg c)
      rcases hk.2.2 with ⟨w', rfl, h4, h5⟩ | ⟨i, rfl, hi⟩
      · exact ⟨h4, h5⟩
      · exact hi
    | pick is =>
      obtain ⟨h1, h2, h3, h5⟩ := hk
      show (((_ :: scanF _ _ is 0 : List Ins).length : Nat) : Int) ≤ (1 + maxL (is.map fun i => sizeK T n (.shp i))) * (Dm m : Int)
      rw [List.length_cons]
      have hs := scanF_len (f := fun i c => ((insideK T n (.shp i)).map (ahead1 (nameT T i) 1)).map (chosen1 c)) (sz := fun _ => 1) (l := is) (o := 0) (g := fun i => (insideK T n (.shp i)).length) fun i hi c => by
        rw [List.length_map, List.length_map]
        exact Nat.le_refl _
      have hM := maxL_nn (is.map fun i => sizeK T n (.shp i))
      have hL : (((is.map fun i => (insideK T n (.shp i)).length).sum : Nat) : Int) ≤ maxL (is.map fun i => sizeK T n (.shp i)) * ((is.map Dm).sum : Int) := by
        have : ∀ l : List Nat, (∀ i ∈ l, i ∈ is) → (((l.map fun i => (insideK T n (.shp i)).length).sum : Nat) : Int) ≤ maxL (is.map fun i => sizeK T n (.shp i)) * ((l.map Dm).sum : Int) := fun l hl => by
          induction l with
          | nil => simp
          | cons a t ih =>
            have ha := hl a List.mem_cons_self
            have q1 := ihA a (r.2.2 a ha)
            have q2 := maxL_ge (l := is.map fun i => sizeK T n (.shp i)) (List.mem_map.mpr ⟨a, ha, rfl⟩)
            have q3 := Int.mul_le_mul_of_nonneg_right q2 (Int.natCast_nonneg (Dm a))
            have q4 := ih fun i hi => hl i (List.mem_cons_of_mem _ hi)
            rw [List.map_cons, List.map_cons, List.sum_cons, List.sum_cons, Int.natCast_add, Int.natCast_add, Int.mul_add]
            omega
        exact this is fun _ h => h
      have hd := Int.mul_le_mul_of_nonneg_left (Int.ofNat_le.mpr (Dm_sum hm h3 h5)) hM
      rw [Int.add_mul, Int.one_mul]
      omega
theorem sizeK_app {T X : Tb} (w : WfT T) : ∀ (n m : Nat) (k : Kd), m ≤ T.length → KOk m k → sizeK (T ++ X) n k = sizeK T n k
  | 0, _, _, _, _ => rfl
  | _ + 1, _, .num _, _, _ => rfl
  | n + 1, m, .pick is, hm, hk => by
    show 1 + maxL _ = 1 + maxL _
    rw [map_congr' fun i hi => sizeK_app w n m (.shp i) hm (hk.2.2.2 i hi)]
  | n + 1, m, .row c k, hm, hk => by
    show (c : Int) * _ = (c : Int) * _
    rcases hk.2.2 with ⟨w', rfl, h4, h5⟩ | ⟨i, rfl, hi⟩
    · rw [sizeK_app w n m (.num w') hm ⟨h4, h5⟩]
    · rw [sizeK_app w n m (.shp i) hm hi]
  | n + 1, m, .shp i, hm, hk => by
    have hi : i < T.length := by
      have : i < m := hk
      omega
    show List.sum _ = List.sum _
    rw [flds_app hi]
    have e := List.getElem?_eq_getElem hi
    refine congrArg List.sum (map_congr' fun p hp => sizeK_app w n i p.2 (by omega) ?_)
    rw [flds_at e] at hp
    exact ((w.2 i _ e).each p hp).2
theorem tab_size {T : Tb} (ok : TabOk T) {i : Nat} (hi : i < T.length) : sizeK T 24 (.shp i) ≤ 64 := by
  have hc := List.getElem?_eq_getElem hi
  have f := ok.fits i _ hc T[i].2.length (List.length_pos_iff.mpr (ok.wf.2 i _ hc).ne) (Nat.le_refl _)
  rw [List.take_length] at f
  have lt : (T.take i).length = i := by rw [List.length_take]; omega
  have := (fits_cnt f).2.1
  rw [lt] at this
  have e : T = (T.take i ++ [(T[i].1, T[i].2)]) ++ T.drop (i + 1) := by
    rw [show (T[i].1, T[i].2) = T[i] from rfl, ← take_snoc hc, List.take_append_drop]
  have wt : WfT (T.take i ++ [(T[i].1, T[i].2)]) := by
    rw [show (T[i].1, T[i].2) = T[i] from rfl, ← take_snoc hc]
    exact wf_take ok.wf (i + 1)
  have e2 : sizeK T 24 (.shp i) = sizeK (T.take i ++ [(T[i].1, T[i].2)]) 24 (.shp i) := by
    have := sizeK_app (X := T.drop (i + 1)) wt 24 (i + 1) (.shp i) (by rw [List.length_append, lt, List.length_singleton]; omega) (Nat.lt_succ_self i)
    rw [← e] at this
    exact this
  rw [e2]
  exact this
theorem ins_few24 {T : Tb} (ok : TabOk T) (h4 : T.length ≤ 4) {i : Nat} (hi : i < T.length) : (insideK T 24 (.shp i)).length ≤ 256 := by
  have h := (ins_few ok.wf h4 (n := 24)).1 i (wf_24 ok.wf hi)
  have hs := tab_size ok hi
  have hD : (Dm i : Int) ≤ 4 := by
    have := Dm_le (show i ≤ 3 by omega)
    have e : Dm 3 = 4 := rfl
    omega
  have h0 := sizeK_nn T 24 (.shp i)
  have := Int.mul_le_mul hs hD (by omega) (by decide)
  omega

end K10

set_option Elab.async false
set_option linter.all false
set_option pp.deepTerms true
set_option pp.maxSteps 100000
set_option format.indent 1
set_option format.width 260
set_option maxRecDepth 100000
set_option maxHeartbeats 4000000
set_option exponentiation.threshold 2000
namespace K10
open PySem PySem.Spec PyProof.Rows L2 Rb Rx SX Tx Rg Rt Rs Ru
local macro_rules | `(tactic| walk_at "rd") => `(tactic| simp only [L2.start, wMix, rRepr, rIsX, rIsXT, gSlAll, rEqS, rNeL, rNeV, rMulS, rEqL, rNotInT, rMax, tMethV, tListVals, tDGet, iEnum, tDIn, tDNotIn, sDPut, cxOf, tSeq, tAsg, tIfS, tTest, tB, tOp, tUn, tVar, tC, tCB, tCons, tNil, tRet, tRetN, tNext, tDrop, tBM, tBM0, tLst_n, tTup_n, tAnd, tOr, tNot, tAndV, tOrV, tNotV, tIf, tChain, tCall, gName, gTup, gCons, gNil, gUnl, gSub, rI, rI0, rU, rIxL, rIxT, rSlL_n, tSl, tPart, tNoPart, rCatR, rCatU, iEnumT, tOrT, rAppend_n, rExtend_n, rPop_n, rClear_n, rSetL_n, rInsert, rRemI_n, tMake_n, sFld_n, tFld, tMeth, rIn, tFor_n, tLc_n, iRngL1, iRngL2, iList, iTup, iRev, iZip, rDivmod, rListOf, rTupOf, rLenSeq, rMin2, rMax2, rAll, rAny, rIsi, tNever, tYes, wipe, tAug, ipI, rEq, rNe, tIsN, tNotN, tDNewK_n, tRz, tCallS, tMethX, tMakeX, tXfA, wAs, wOnly, tVeI, tOst, gSlS, iRng3, rSum, rStrI, rIsB, rNotB, rSlT, rIndex, rRep_n, rInt1, tLenSetS, scal_ii, scal_bb, scal_ss, scal_nn, scal_ni, scal_in, scal_ns, scal_sn, scal_is, scal_si, List.map_cons, List.map_nil, List.length_cons, List.length_nil, List.replicate, List.nil_append, List.cons_append, List.append_nil, List.getElem?_cons_zero, List.getElem?_cons_succ, List.set_cons_zero, List.set_cons_succ, List.set_nil, Nat.reduceAdd, Nat.reduceSub, Option.some.injEq, V.int.injEq, V.ref.injEq, V.bl.injEq, V.str.injEq, V.ty.injEq, List.cons.injEq, and_assoc, and_true, true_and, exists_eq_left, exists_eq_left', exists_and_left, exists_and_right, exists_eq, exists_eq', exists_eq_right, exists_eq_right', if_true, if_false, Bool.false_eq_true, Bool.not_true, Bool.not_false, if_pos, Int.toNat_natCast, decide_eq_true_eq, Bool.not_eq_true', decide_eq_false_iff_not, reduceCtorEq, false_and, and_false, exists_false, exists_const, rIxS, C8.rSlX, rJoinS, rSplitS, tBMS, rIndexX, iStr, tDisp, tPairs])
local macro_rules | `(tactic| walk_at "ex") => `(tactic| repeat' (first | assumption | (with_reducible refine Exists.intro _ ?_) | (with_reducible refine And.intro ?_ ?_) | rfl))

/-! ### what is inside a kind lies apart -/
def apart (a b : Ins) : Prop := a.o + a.w ≤ b.o ∨ b.o + b.w ≤ a.o ∨ ∃ q ∈ a.h, ∃ q' ∈ b.h, q.1 = q'.1 ∧ q.2 ≠ q'.2
theorem apart_ahead {s : List Nat} {m : Int} {a b : Ins} (h : apart a b) : apart (ahead1 s m a) (ahead1 s m b) := by
  rcases h with h | h | ⟨q, hq, q', hq', e, n⟩
  · refine .inl ?_
    show a.o + m + a.w ≤ b.o + m
    omega
  · refine .inr (.inl ?_)
    show b.o + m + b.w ≤ a.o + m
    omega
  · exact .inr (.inr ⟨hold1 s q, List.mem_map.mpr ⟨q, hq, rfl⟩, hold1 s q', List.mem_map.mpr ⟨q', hq', rfl⟩, by unfold hold1; rw [e], n⟩)
theorem apart_same {c : Int} {a b : Ins} (h : apart a b) : apart (chosen1 c a) (chosen1 c b) := by
  rcases h with h | h | ⟨q, hq, q', hq', e, n⟩
  · exact .inl h
  · exact .inr (.inl h)
  · exact .inr (.inr ⟨q, List.mem_cons_of_mem _ hq, q', List.mem_cons_of_mem _ hq', e, n⟩)
theorem apart_chosen {c d : Int} {a b : Ins} (h : c ≠ d) : apart (chosen1 c a) (chosen1 d b) := .inr (.inr ⟨([], c), List.mem_cons_self, ([], d), List.mem_cons_self, rfl, h⟩)
def within (l : List Ins) (lo hi : Int) : Prop := ∀ r ∈ l, lo ≤ r.o ∧ r.o + r.w ≤ hi ∧ 1 ≤ r.w
theorem scan_apart {α : Type} {f : α → Int → List Ins} {sz : α → Int} : ∀ {l : List α} {o : Int}, (∀ x ∈ l, 0 ≤ sz x ∧ ∀ c, within (f x c) c (c + sz x) ∧ (f x c).Pairwise apart) → within (scanF f sz l o) o (o + (l.map sz).sum) ∧ (scanF f sz l o).Pairwise apart
  | [], o, _ => ⟨fun r h => absurd h List.not_mem_nil, .nil⟩
  | x :: t, o, h => by
    obtain ⟨s0, hx⟩ := h x List.mem_cons_self
    obtain ⟨w1, p1⟩ := hx o
    obtain ⟨w2, p2⟩ := scan_apart (l := t) (o := o + sz x) fun y hy => h y (List.mem_cons_of_mem _ hy)
    have hs : ∀ t : List α, (∀ y ∈ t, 0 ≤ sz y) → 0 ≤ (t.map sz).sum := fun t ht => by
      induction t with
      | nil => exact Int.le_refl _
      | cons a r ih =>
        rw [List.map_cons, List.sum_cons]
        have := ht a List.mem_cons_self
        have := ih fun y hy => ht y (List.mem_cons_of_mem _ hy)
        omega
    have h0 := hs t fun y hy => (h y (List.mem_cons_of_mem _ hy)).1
    refine ⟨fun r hr => ?_, ?_⟩
    · rw [List.map_cons, List.sum_cons]
      rcases List.mem_append.mp hr with hr | hr
      · obtain ⟨a, b, c⟩ := w1 r hr
        omega
      · obtain ⟨a, b, c⟩ := w2 r hr
        omega
    · show (f x o ++ scanF f sz t (o + sz x)).Pairwise apart
      refine List.pairwise_append.mpr ⟨p1, p2, fun a ha b hb => .inl ?_⟩
      obtain ⟨_, e1, _⟩ := w1 a ha
      obtain ⟨e2, _, _⟩ := w2 b hb
      omega
theorem within_ahead {s : List Nat} {m lo hi : Int} {l : List Ins} (h : within l lo hi) : within (l.map (ahead1 s m)) (lo + m) (hi + m) := fun r hr => by
  obtain ⟨a, ha, rfl⟩ := List.mem_map.mp hr
  obtain ⟨h1, h2, h3⟩ := h a ha
  show lo + m ≤ a.o + m ∧ a.o + m + a.w ≤ hi + m ∧ 1 ≤ a.w
  omega
theorem pick_apart {f : Nat → List Ins} : ∀ {l : List Nat} {o : Int}, (∀ i ∈ l, (f i).Pairwise apart) → (scanF (fun i c => (f i).map (chosen1 c)) (fun _ => 1) l o).Pairwise apart ∧ ∀ r ∈ scanF (fun i c => (f i).map (chosen1 c)) (fun _ => 1) l o, ∃ c i a, o ≤ c ∧ i ∈ l ∧ a ∈ f i ∧ r = chosen1 c a
  | [], o, _ => ⟨.nil, fun r h => absurd h List.not_mem_nil⟩
  | x :: t, o, h => by
    obtain ⟨p2, e2⟩ := pick_apart (l := t) (o := o + 1) fun i hi => h i (List.mem_cons_of_mem _ hi)
    refine ⟨?_, fun r hr => ?_⟩
    · show ((f x).map (chosen1 o) ++ scanF _ _ t (o + 1)).Pairwise apart
      refine List.pairwise_append.mpr ⟨List.pairwise_map.mpr ((h x List.mem_cons_self).imp apart_same), p2, fun a ha b hb => ?_⟩
      obtain ⟨a', _, rfl⟩ := List.mem_map.mp ha
      obtain ⟨c, i, b', hc, _, _, rfl⟩ := e2 b hb
      exact apart_chosen (by omega)
    · rcases List.mem_append.mp hr with hr | hr
      · obtain ⟨a, ha, rfl⟩ := List.mem_map.mp hr
        exact ⟨o, x, a, Int.le_refl _, List.mem_cons_self, ha, rfl⟩
      · obtain ⟨c, i, a, hc, hi, ha, rfl⟩ := e2 r hr
        exact ⟨c, i, a, by omega, List.mem_cons_of_mem _ hi, ha, rfl⟩
theorem ins_apart {T : Tb} (w : WfT T) : ∀ {n m : Nat} {k : Kd}, KOk m k → m ≤ T.length → Rk T n k → within (insideK T n k) 0 (sizeK T n k) ∧ (insideK T n k).Pairwise apart
  | 0, _, _, _, _, r => r.elim
  | n + 1, _, .num x, hk, _, _ => by
    refine ⟨fun r hr => ?_, List.pairwise_singleton _ _⟩
    rw [List.mem_singleton.mp hr]
    have := hk.1
    show (0 : Int) ≤ 0 ∧ (0 : Int) + (x : Int) ≤ (x : Int) ∧ 1 ≤ (x : Int)
    omega
  | n + 1, m, .row c k, hk, hm, r => by
    have ih : within (insideK T n k) 0 (sizeK T n k) ∧ (insideK T n k).Pairwise apart := by
      rcases hk.2.2 with ⟨w', rfl, h4, h5⟩ | ⟨i, rfl, hi⟩
      · exact ins_apart w (k := .num w') (m := m) ⟨h4, h5⟩ hm r.2
      · exact ins_apart w (k := .shp i) (m := m) hi hm r.2
    have s0 := sizeK_nn T n k
    refine ⟨fun x hx => ?_, ?_⟩
    · obtain ⟨i, hi, hx⟩ := List.mem_flatMap.mp hx
      have hi := List.mem_range.mp hi
      obtain ⟨h1, h2, h3⟩ := within_ahead ih.1 x hx
      refine ⟨?_, ?_, h3⟩
      · have : 0 ≤ (i : Int) * sizeK T n k := Int.mul_nonneg (Int.natCast_nonneg i) s0
        omega
      · show x.o + x.w ≤ (c : Int) * sizeK T n k
        have : ((i : Int) + 1) * sizeK T n k ≤ (c : Int) * sizeK T n k := Int.mul_le_mul_of_nonneg_right (by omega) s0
        rw [Int.add_mul, Int.one_mul] at this
        omega
    · show ((List.range c).flatMap fun i => (insideK T n k).map (ahead1 (TL.numL i) ((i : Int) * sizeK T n k))).Pairwise apart
      refine List.pairwise_flatMap.mpr ⟨fun i _ => List.pairwise_map.mpr (ih.2.imp apart_ahead), List.pairwise_lt_range.imp fun {i j} hij x hx y hy => .inl ?_⟩
      obtain ⟨_, h2, _⟩ := within_ahead ih.1 x hx
      obtain ⟨h1, _, _⟩ := within_ahead ih.1 y hy
      have : ((i : Int) + 1) * sizeK T n k ≤ (j : Int) * sizeK T n k := Int.mul_le_mul_of_nonneg_right (by omega) s0
      rw [Int.add_mul, Int.one_mul] at this
      omega
  | n + 1, m, .shp i, hk, hm, r => by
    have e := List.getElem?_eq_getElem r.1
    have ih : ∀ q ∈ flds T i, within (insideK T n q.2) 0 (sizeK T n q.2) ∧ (insideK T n q.2).Pairwise apart := fun q hq => ins_apart w ((w.2 i _ e).each q (by rw [← flds_at e]; exact hq)).2 (Nat.le_of_lt r.1) (r.2.2.2.2 q hq).2.2
    have := scan_apart (f := fun (q : List Nat × Kd) c => (insideK T n q.2).map (ahead1 q.1 c)) (sz := fun q => sizeK T n q.2) (l := flds T i) (o := 0) fun q hq => ⟨sizeK_nn T n q.2, fun c => ⟨fun x hx => ?_, List.pairwise_map.mpr ((ih q hq).2.imp apart_ahead)⟩⟩
    · rw [Int.zero_add] at this
      exact this
    · obtain ⟨h1, h2, h3⟩ := within_ahead (ih q hq).1 x hx
      omega
  | n + 1, m, .pick is, hk, hm, r => by
    have ih : ∀ i ∈ is, within (insideK T n (.shp i)) 0 (sizeK T n (.shp i)) ∧ (insideK T n (.shp i)).Pairwise apart := fun i hi => ins_apart w (k := .shp i) (m := m) (hk.2.2.2 i hi) hm (r.2.2 i hi)
    obtain ⟨p, q⟩ := pick_apart (f := fun i => (insideK T n (.shp i)).map (ahead1 (nameT T i) 1)) (l := is) (o := 0) fun i hi => List.pairwise_map.mpr ((ih i hi).2.imp apart_ahead)
    have hb : ∀ x ∈ scanF (fun i c => ((insideK T n (.shp i)).map (ahead1 (nameT T i) 1)).map (chosen1 c)) (fun _ => 1) is 0, 1 ≤ x.o ∧ x.o + x.w ≤ 1 + maxL (is.map fun i => sizeK T n (.shp i)) ∧ 1 ≤ x.w := fun x hx => by
      obtain ⟨c, i, a, _, hi, ha, rfl⟩ := q x hx
      obtain ⟨h1, h2, h3⟩ := within_ahead (ih i hi).1 a ha
      have := maxL_ge (l := is.map fun i => sizeK T n (.shp i)) (List.mem_map.mpr ⟨i, hi, rfl⟩)
      show 1 ≤ a.o ∧ a.o + a.w ≤ _ ∧ 1 ≤ a.w
      omega
    have hM := maxL_nn (is.map fun i => sizeK T n (.shp i))
    refine ⟨fun x hx => ?_, List.pairwise_cons.mpr ⟨fun x hx => .inl ?_, p⟩⟩
    · rcases List.mem_cons.mp hx with rfl | hx
      · show (0 : Int) ≤ 0 ∧ (0 : Int) + 1 ≤ 1 + maxL _ ∧ (1 : Int) ≤ 1
        omega
      · have := hb x hx
        show 0 ≤ x.o ∧ x.o + x.w ≤ 1 + maxL _ ∧ 1 ≤ x.w
        omega
    · show (0 : Int) + 1 ≤ x.o
      have := (hb x hx).1
      omega
/-! ### paths are unlike -/
def Dl (s : List Nat) : Prop := s ≠ [] ∧ 46 ∉ s
theorem joinE_app (a b : List Nat) (ha : a ≠ []) : joinedE a b = a ++ (if b = [] then [] else 46 :: b) := by
  unfold joinedE joinedL
  by_cases h : b = []
  · rw [if_pos h, if_pos h, List.append_nil]
  · rw [if_neg h, if_neg ha, if_neg h, List.append_assoc]
    rfl
theorem take_dot {a t : List Nat} (h : 46 ∉ a) (ht : t = [] ∨ ∃ b, t = 46 :: b) : (a ++ t).takeWhile (· != 46) = a := by
  induction a with
  | nil =>
    rcases ht with rfl | ⟨b, rfl⟩
    · rfl
    · rfl
  | cons c r ih =>
    have hc : (c != 46) = true := by
      rw [bne_iff_ne]
      exact fun e => h (e ▸ List.mem_cons_self)
    rw [List.cons_append, List.takeWhile_cons, if_pos hc, ih fun m => h (List.mem_cons_of_mem _ m)]
theorem tail_inj {b b' : List Nat} (h : (if b = [] then ([] : List Nat) else 46 :: b) = if b' = [] then [] else 46 :: b') : b = b' := by
  by_cases e : b = [] <;> by_cases e' : b' = []
  · rw [e, e']
  · rw [if_pos e, if_neg e'] at h
    cases h
  · rw [if_neg e, if_pos e'] at h
    cases h
  · rw [if_neg e, if_neg e'] at h
    exact (List.cons.inj h).2
theorem tail_form (b : List Nat) : (if b = [] then ([] : List Nat) else 46 :: b) = [] ∨ ∃ c, (if b = [] then ([] : List Nat) else 46 :: b) = 46 :: c := by
  by_cases e : b = []
  · exact .inl (if_pos e)
  · exact .inr ⟨b, if_neg e⟩
theorem joinE_inj {a a' b b' : List Nat} (h : Dl a) (h' : Dl a') (e : joinedE a b = joinedE a' b') : a = a' ∧ b = b' := by
  rw [joinE_app a b h.1, joinE_app a' b' h'.1] at e
  have e1 := congrArg (List.takeWhile (· != 46)) e
  rw [take_dot h.2 (tail_form b), take_dot h'.2 (tail_form b')] at e1
  subst e1
  exact ⟨rfl, tail_inj (List.append_cancel_left e)⟩
theorem joinE_can {a b b' : List Nat} (e : joinedE a b = joinedE a b') : b = b' := by
  by_cases h : a = []
  · subst h
    have : ∀ c, joinedE [] c = c := fun c => by
      unfold joinedE joinedL
      by_cases hc : c = []
      · rw [if_pos hc, hc]
      · rw [if_neg hc, if_pos rfl]
    rw [this, this] at e
    exact e
  · rw [joinE_app a b h, joinE_app a b' h] at e
    exact tail_inj (List.append_cancel_left e)
theorem nodup_flat {α : Type} {l : List α} {key : α → List Nat} {g : α → List (List Nat)} (hk : (l.map key).Nodup) (hd : ∀ x ∈ l, Dl (key x)) (hg : ∀ x ∈ l, (g x).Nodup) : (l.flatMap fun x => (g x).map (joinedE (key x))).Nodup := by
  rw [List.nodup_iff_pairwise_ne, List.pairwise_flatMap]
  refine ⟨fun x hx => List.pairwise_map.mpr ((List.nodup_iff_pairwise_ne.mp (hg x hx)).imp fun h e => h (joinE_can e)), ?_⟩
  rw [List.nodup_iff_pairwise_ne, List.pairwise_map] at hk
  refine hk.imp_of_mem fun {x y} hx hy hxy a ha b hb e => hxy ?_
  obtain ⟨a', _, rfl⟩ := List.mem_map.mp ha
  obtain ⟨b', _, rfl⟩ := List.mem_map.mp hb
  exact (joinE_inj (hd x hx) (hd y hy) e).1
theorem dl_name {s : List Nat} (h : isNameL s = true) : Dl s := by
  obtain ⟨h1, h2, h3, h4⟩ := isName_len h
  refine ⟨fun e => by rw [e] at h1; exact absurd h1 (by decide), fun m => ?_⟩
  have := (h3 _ m).1
  omega
theorem scan_paths {α : Type} {f : α → Int → List Ins} {sz : α → Int} {g : α → List (List Nat)} : ∀ {l : List α} {o : Int}, (∀ x ∈ l, ∀ c, ((f x c).map fun r => r.p) = g x) → ((scanF f sz l o).map fun r => r.p) = l.flatMap g
  | [], _, _ => rfl
  | x :: t, o, h => by
    show ((f x o ++ scanF f sz t (o + sz x)).map fun r => r.p) = (x :: t).flatMap g
    rw [List.map_append, List.flatMap_cons, h x List.mem_cons_self o, scan_paths (l := t) fun y hy => h y (List.mem_cons_of_mem _ hy)]
theorem nums_nodup (c : Nat) : ((List.range c).map TL.numL).Nodup := nodup_map_on List.nodup_range fun x _ y _ e => TL.numL_inj e
theorem tag_no {s : List Nat} (h : isNameL s = true) : s ≠ tagW' := fun e => (isName_len h).2.2.2 (e ▸ by decide +kernel)
theorem dl_num (i : Nat) : Dl (TL.numL i) := ⟨TL.numL_ne i, fun m => by
  have := (TL.numL_digits i _ m).1
  omega⟩
theorem dl_tag : Dl tagW' := by
  unfold Dl
  decide
theorem paths_ahead {s : List Nat} {m : Int} {l : List Ins} : ((l.map (ahead1 s m)).map fun r => r.p) = (l.map fun r => r.p).map (joinedE s) := by
  rw [List.map_map, List.map_map]
  rfl
theorem ins_paths {T : Tb} (ok : TabOk T) : ∀ {n m : Nat} {k : Kd}, KOk m k → m ≤ T.length → Rk T n k → ((insideK T n k).map fun r => r.p).Nodup
  | 0, _, _, _, _, r => r.elim
  | n + 1, _, .num x, _, _, _ => List.nodup_cons.mpr ⟨List.not_mem_nil, List.nodup_nil⟩
  | n + 1, m, .row c k, hk, hm, r => by
    have ih : ((insideK T n k).map fun r => r.p).Nodup := by
      rcases hk.2.2 with ⟨w', rfl, h4, h5⟩ | ⟨i, rfl, hi⟩
      · exact ins_paths ok (k := .num w') (m := m) ⟨h4, h5⟩ hm r.2
      · exact ins_paths ok (k := .shp i) (m := m) hi hm r.2
    show (((List.range c).flatMap fun i => (insideK T n k).map (ahead1 (TL.numL i) ((i : Int) * sizeK T n k))).map fun r => r.p).Nodup
    rw [List.map_flatMap]
    have := nodup_flat (l := List.range c) (key := TL.numL) (g := fun _ => (insideK T n k).map fun r => r.p) (nums_nodup c) (fun i _ => dl_num i) fun i _ => ih
    rw [show ((List.range c).flatMap fun i => ((insideK T n k).map (ahead1 (TL.numL i) ((i : Int) * sizeK T n k))).map fun r => r.p) = (List.range c).flatMap fun i => ((insideK T n k).map fun r => r.p).map (joinedE (TL.numL i)) from by
      congr 1
      funext i
      exact paths_ahead]
    exact this
  | n + 1, m, .shp i, hk, hm, r => by
    have w := ok.wf
    have e := List.getElem?_eq_getElem r.1
    have ih : ∀ q ∈ flds T i, ((insideK T n q.2).map fun r => r.p).Nodup := fun q hq => ins_paths ok ((w.2 i _ e).each q (by rw [← flds_at e]; exact hq)).2 (Nat.le_of_lt r.1) (r.2.2.2.2 q hq).2.2
    show ((scanF (fun (q : List Nat × Kd) c => (insideK T n q.2).map (ahead1 q.1 c)) (fun q => sizeK T n q.2) (flds T i) 0).map fun r => r.p).Nodup
    rw [scan_paths (g := fun q : List Nat × Kd => ((insideK T n q.2).map fun r => r.p).map (joinedE q.1)) (fun q _ c => paths_ahead)]
    refine nodup_flat (key := fun q : List Nat × Kd => q.1) ?_ (fun q hq => dl_name ((w.2 i _ e).each q (by rw [← flds_at e]; exact hq)).1) ih
    rw [flds_at e]
    exact ok.fnd _ (List.getElem_mem r.1)
  | n + 1, m, .pick is, hk, hm, r => by
    have w := ok.wf
    have ih : ∀ i ∈ is, ((insideK T n (.shp i)).map fun r => r.p).Nodup := fun i hi => ins_paths ok (k := .shp i) (m := m) (hk.2.2.2 i hi) hm (r.2.2 i hi)
    have hn : ∀ i ∈ is, isNameL (nameT T i) = true := fun i hi => wf_name w (Nat.lt_of_lt_of_le (hk.2.2.2 i hi) hm)
    have nd2 : (is.map (nameT T)).Nodup := by
      rw [List.nodup_iff_pairwise_ne, List.pairwise_map]
      refine (List.nodup_iff_pairwise_ne.mp hk.2.2.1).imp_of_mem fun {a b} ha hb hab e => hab ?_
      have la := Nat.lt_of_lt_of_le (hk.2.2.2 a ha) hm
      have lb := Nat.lt_of_lt_of_le (hk.2.2.2 b hb) hm
      have ea := List.getElem?_eq_getElem la
      have eb := List.getElem?_eq_getElem lb
      rw [name_at ea, name_at eb] at e
      have e1 : (T.map (·.1))[a]? = some T[a].1 := by rw [List.getElem?_map, ea]; rfl
      have e2 : (T.map (·.1))[b]? = some T[a].1 := by rw [List.getElem?_map, eb, e]; rfl
      exact nd_ix ok.nd e1 e2
    show (tagW' :: (scanF (fun i c => ((insideK T n (.shp i)).map (ahead1 (nameT T i) 1)).map (chosen1 c)) (fun _ => 1) is 0).map fun r => r.p).Nodup
    rw [scan_paths (g := fun i => ((insideK T n (.shp i)).map fun r => r.p).map (joinedE (nameT T i))) fun i _ c => by rw [← paths_ahead (m := 1), List.map_map]; rfl]
    refine List.nodup_cons.mpr ⟨fun hmem => ?_, nodup_flat nd2 (fun i hi => dl_name (hn i hi)) ih⟩
    obtain ⟨i, hi, hx⟩ := List.mem_flatMap.mp hmem
    obtain ⟨b, _, e⟩ := List.mem_map.mp hx
    have e2 : joinedE (nameT T i) b = joinedE tagW' [] := by rw [e, joinedE_nil]
    exact tag_no (hn i hi) (joinE_inj (dl_name (hn i hi)) dl_tag e2).1

end K10

set_option Elab.async false
set_option linter.all false
set_option pp.deepTerms true
set_option pp.maxSteps 100000
set_option format.indent 1
set_option format.width 260
set_option maxRecDepth 100000
set_option maxHeartbeats 4000000
set_option exponentiation.threshold 2000
namespace K10
open PySem PySem.Spec PyProof.Rows L2 Rb Rx SX Tx Rg Rt Rs Ru
local macro_rules | `(tactic| walk_at "rd") => `(tactic| simp only [L2.start, wMix, rRepr, rIsX, rIsXT, gSlAll, rEqS, rNeL, rNeV, rMulS, rEqL, rNotInT, rMax, tMethV, tListVals, tDGet, iEnum, tDIn, tDNotIn, sDPut, cxOf, tSeq, tAsg, tIfS, tTest, tB, tOp, tUn, tVar, tC, tCB, tCons, tNil, tRet, tRetN, tNext, tDrop, tBM, tBM0, tLst_n, tTup_n, tAnd, tOr, tNot, tAndV, tOrV, tNotV, tIf, tChain, tCall, gName, gTup, gCons, gNil, gUnl, gSub, rI, rI0, rU, rIxL, rIxT, rSlL_n, tSl, tPart, tNoPart, rCatR, rCatU, iEnumT, tOrT, rAppend_n, rExtend_n, rPop_n, rClear_n, rSetL_n, rInsert, rRemI_n, tMake_n, sFld_n, tFld, tMeth, rIn, tFor_n, tLc_n, iRngL1, iRngL2, iList, iTup, iRev, iZip, rDivmod, rListOf, rTupOf, rLenSeq, rMin2, rMax2, rAll, rAny, rIsi, tNever, tYes, wipe, tAug, ipI, rEq, rNe, tIsN, tNotN, tDNewK_n, tRz, tCallS, tMethX, tMakeX, tXfA, wAs, wOnly, tVeI, tOst, gSlS, iRng3, rSum, rStrI, rIsB, rNotB, rSlT, rIndex, rRep_n, rInt1, tLenSetS, scal_ii, scal_bb, scal_ss, scal_nn, scal_ni, scal_in, scal_ns, scal_sn, scal_is, scal_si, List.map_cons, List.map_nil, List.length_cons, List.length_nil, List.replicate, List.nil_append, List.cons_append, List.append_nil, List.getElem?_cons_zero, List.getElem?_cons_succ, List.set_cons_zero, List.set_cons_succ, List.set_nil, Nat.reduceAdd, Nat.reduceSub, Option.some.injEq, V.int.injEq, V.ref.injEq, V.bl.injEq, V.str.injEq, V.ty.injEq, List.cons.injEq, and_assoc, and_true, true_and, exists_eq_left, exists_eq_left', exists_and_left, exists_and_right, exists_eq, exists_eq', exists_eq_right, exists_eq_right', if_true, if_false, Bool.false_eq_true, Bool.not_true, Bool.not_false, if_pos, Int.toNat_natCast, decide_eq_true_eq, Bool.not_eq_true', decide_eq_false_iff_not, reduceCtorEq, false_and, and_false, exists_false, exists_const, rIxS, C8.rSlX, rJoinS, rSplitS, tBMS, rIndexX, iStr, tDisp, tPairs])
local macro_rules | `(tactic| walk_at "ex") => `(tactic| repeat' (first | assumption | (with_reducible refine Exists.intro _ ?_) | (with_reducible refine And.intro ?_ ?_) | rfl))

/-! ### units, and what lies in each -/
theorem flat_congr {α β : Type} {f g : α → List β} : ∀ {l : List α}, (∀ x ∈ l, f x = g x) → l.flatMap f = l.flatMap g
  | [], _ => rfl
  | a :: r, h => by rw [List.flatMap_cons, List.flatMap_cons, h a List.mem_cons_self, flat_congr fun x hx => h x (List.mem_cons_of_mem _ hx)]
structure UI where
  p : List Nat
  w : Int
  k : Bool
  i : List Ins
def uiA (s : List Nat) (u : UI) : UI := ⟨joinedE s u.p, u.w, u.k, u.i⟩
def back1 (r : Ins) : Ins := ⟨r.p, r.w, r.o + -1, r.h⟩
def unitsI (T : Tb) : Nat → Kd → List UI
  | 0, _ => []
  | _ + 1, .num w => [⟨[], (w : Int), false, [⟨[], (w : Int), 0, []⟩]⟩]
  | n + 1, .row m k => (List.range m).flatMap fun i => (unitsI T n k).map (uiA (TL.numL i))
  | n + 1, .shp i => (flds T i).flatMap fun q => (unitsI T n q.2).map (uiA q.1)
  | n + 1, .pick is => [⟨[], maxL (is.map fun i => sizeK T n (.shp i)), true, (insideK T (n + 1) (.pick is)).tail.map back1⟩]
def leafOf (p : List Nat) (u : UI) : List Lea := u.i.map fun r => ⟨joinedE (joinedE p u.p) r.p, r.w, joinedE p u.p, r.o, r.h.map (hold1 (joinedE p u.p))⟩
def keysOf (p : List Nat) (u : UI) : List Un := if u.k = true then [(joinedE (joinedE p u.p) tagW', 1, tagW'), (joinedE p u.p, u.w, pickW')] else [(joinedE p u.p, u.w, numW)]
theorem leafOf_A {p s : List Nat} {u : UI} (h : s ≠ []) : leafOf p (uiA s u) = leafOf (joinedL p s) u := by
  unfold leafOf uiA
  rw [joinedL_E h]
theorem keysOf_A {p s : List Nat} {u : UI} (h : s ≠ []) : keysOf p (uiA s u) = keysOf (joinedL p s) u := by
  unfold keysOf uiA
  rw [joinedL_E h]
theorem leaves_U {T : Tb} : ∀ {n : Nat} {k : Kd} {p : List Nat}, Rk T n k → leavesK T n k p = (unitsI T n k).flatMap (leafOf p)
  | 0, _, _, r => r.elim
  | _ + 1, .num w, p, _ => by
    show [(⟨p, (w : Int), p, 0, []⟩ : Lea)] = leafOf p ⟨[], (w : Int), false, [⟨[], (w : Int), 0, []⟩]⟩ ++ []
    unfold leafOf
    rw [List.append_nil]
    show _ = [(⟨joinedE (joinedE p []) [], (w : Int), joinedE p [], 0, []⟩ : Lea)]
    rw [joinedE_nil, joinedE_nil]
  | n + 1, .row m k, p, r => by
    show ((List.range m).flatMap fun i => leavesK T n k (joinedL p (TL.numL i))) = ((List.range m).flatMap fun i => (unitsI T n k).map (uiA (TL.numL i))).flatMap (leafOf p)
    rw [List.flatMap_assoc]
    refine flat_congr fun i _ => ?_
    rw [leaves_U r.2, List.flatMap_map]
    exact flat_congr fun u _ => (leafOf_A (TL.numL_ne i)).symm
  | n + 1, .shp i, p, r => by
    show ((flds T i).flatMap fun q => leavesK T n q.2 (joinedL p q.1)) = ((flds T i).flatMap fun q => (unitsI T n q.2).map (uiA q.1)).flatMap (leafOf p)
    rw [List.flatMap_assoc]
    refine flat_congr fun q hq => ?_
    obtain ⟨_, h2, h3⟩ := r.2.2.2.2 q hq
    rw [leaves_U h3, List.flatMap_map]
    exact flat_congr fun u _ => (leafOf_A h2).symm
  | n + 1, .pick is, p, r => by
    show (((insideK T (n + 1) (.pick is)).tail).map (ahead1 p (-1))).map (mkLea p) = leafOf p ⟨[], _, true, (insideK T (n + 1) (.pick is)).tail.map back1⟩ ++ []
    unfold leafOf
    rw [List.append_nil, List.map_map, List.map_map]
    refine map_congr' fun x _ => ?_
    show mkLea p (ahead1 p (-1) x) = (⟨joinedE (joinedE p []) x.p, x.w, joinedE p [], x.o + -1, x.h.map (hold1 (joinedE p []))⟩ : Lea)
    rw [joinedE_nil]
    rfl
theorem units_U {T : Tb} : ∀ {n : Nat} {k : Kd} {p : List Nat}, Rk T n k → unitsK T n k p = (unitsI T n k).flatMap (keysOf p)
  | 0, _, _, r => r.elim
  | _ + 1, .num w, p, _ => by
    show [((p, (w : Int), numW) : Un)] = keysOf p ⟨[], (w : Int), false, [⟨[], (w : Int), 0, []⟩]⟩ ++ []
    unfold keysOf
    rw [List.append_nil, if_neg (show ¬ (false = true) by decide)]
    show _ = [((joinedE p [], (w : Int), numW) : Un)]
    rw [joinedE_nil]
  | n + 1, .row m k, p, r => by
    show ((List.range m).flatMap fun i => unitsK T n k (joinedL p (TL.numL i))) = ((List.range m).flatMap fun i => (unitsI T n k).map (uiA (TL.numL i))).flatMap (keysOf p)
    rw [List.flatMap_assoc]
    refine flat_congr fun i _ => ?_
    rw [units_U r.2, List.flatMap_map]
    exact flat_congr fun u _ => (keysOf_A (TL.numL_ne i)).symm
  | n + 1, .shp i, p, r => by
    show ((flds T i).flatMap fun q => unitsK T n q.2 (joinedL p q.1)) = ((flds T i).flatMap fun q => (unitsI T n q.2).map (uiA q.1)).flatMap (keysOf p)
    rw [List.flatMap_assoc]
    refine flat_congr fun q hq => ?_
    obtain ⟨_, h2, h3⟩ := r.2.2.2.2 q hq
    rw [units_U h3, List.flatMap_map]
    exact flat_congr fun u _ => (keysOf_A h2).symm
  | n + 1, .pick is, p, r => by
    show [((joinedL p tagW', 1, tagW') : Un), (p, _, pickW')] = keysOf p ⟨[], _, true, _⟩ ++ []
    unfold keysOf
    rw [List.append_nil, if_pos rfl]
    show _ = [((joinedE (joinedE p []) tagW', 1, tagW') : Un), (joinedE p [], _, pickW')]
    rw [joinedE_nil, joinedE_L dl_tag.1]
/-- no one's path is ahead of another one's -/
def free (a b : UI) : Prop := ∀ r r', joinedE a.p r ≠ joinedE b.p r'
theorem free_flat {α : Type} {l : List α} {key : α → List Nat} {g : α → List UI} (hk : (l.map key).Nodup) (hd : ∀ x ∈ l, Dl (key x)) (hg : ∀ x ∈ l, (g x).Pairwise free) : (l.flatMap fun x => (g x).map (uiA (key x))).Pairwise free := by
  refine List.pairwise_flatMap.mpr ⟨fun x hx => List.pairwise_map.mpr ((hg x hx).imp fun {a b} h r r' e => ?_), ?_⟩
  · have e : joinedE (joinedE (key x) a.p) r = joinedE (joinedE (key x) b.p) r' := e
    rw [joinedE_assoc, joinedE_assoc] at e
    exact h r r' (joinE_can e)
  · rw [List.nodup_iff_pairwise_ne, List.pairwise_map] at hk
    refine hk.imp_of_mem fun {x y} hx hy hxy a ha b hb r r' e => hxy ?_
    obtain ⟨a', _, rfl⟩ := List.mem_map.mp ha
    obtain ⟨b', _, rfl⟩ := List.mem_map.mp hb
    have e : joinedE (joinedE (key x) a'.p) r = joinedE (joinedE (key y) b'.p) r' := e
    rw [joinedE_assoc, joinedE_assoc] at e
    exact (joinE_inj (hd x hx) (hd y hy) e).1
structure UOk (u : UI) : Prop where
  wi : within u.i 0 u.w
  ap : u.i.Pairwise apart
  nd : (u.i.map fun r => r.p).Nodup
  nu : u.k = false → u.i = [⟨[], u.w, 0, []⟩]
  pk : u.k = true → ∀ r ∈ u.i, ∃ c h, r.h = ([], c) :: h
theorem units_ok {T : Tb} (ok : TabOk T) : ∀ {n m : Nat} {k : Kd}, KOk m k → m ≤ T.length → Rk T n k → (unitsI T n k).Pairwise free ∧ ∀ u ∈ unitsI T n k, UOk u
  | 0, _, _, _, _, r => r.elim
  | n + 1, _, .num x, hk, _, _ => by
    refine ⟨List.pairwise_singleton _ _, fun u hu => ?_⟩
    rw [List.mem_singleton.mp hu]
    have := hk.1
    refine ⟨fun r hr => ?_, List.pairwise_singleton _ _, List.nodup_cons.mpr ⟨List.not_mem_nil, List.nodup_nil⟩, fun _ => rfl, fun h => by cases h⟩
    rw [List.mem_singleton.mp hr]
    show (0 : Int) ≤ 0 ∧ (0 : Int) + (x : Int) ≤ (x : Int) ∧ 1 ≤ (x : Int)
    omega
  | n + 1, m, .row c k, hk, hm, r => by
    have ih : (unitsI T n k).Pairwise free ∧ ∀ u ∈ unitsI T n k, UOk u := by
      rcases hk.2.2 with ⟨w', rfl, h4, h5⟩ | ⟨i, rfl, hi⟩
      · exact units_ok ok (k := .num w') (m := m) ⟨h4, h5⟩ hm r.2
      · exact units_ok ok (k := .shp i) (m := m) hi hm r.2
    refine ⟨free_flat (key := TL.numL) (g := fun _ => unitsI T n k) (nums_nodup c) (fun i _ => dl_num i) fun i _ => ih.1, fun u hu => ?_⟩
    obtain ⟨i, _, hu⟩ := List.mem_flatMap.mp hu
    obtain ⟨v, hv, rfl⟩ := List.mem_map.mp hu
    obtain ⟨a, b, c, d, e⟩ := ih.2 v hv
    exact ⟨a, b, c, d, e⟩
  | n + 1, m, .shp i, hk, hm, r => by
    have w := ok.wf
    have e := List.getElem?_eq_getElem r.1
    have ih : ∀ q ∈ flds T i, (unitsI T n q.2).Pairwise free ∧ ∀ u ∈ unitsI T n q.2, UOk u := fun q hq => units_ok ok ((w.2 i _ e).each q (by rw [← flds_at e]; exact hq)).2 (Nat.le_of_lt r.1) (r.2.2.2.2 q hq).2.2
    refine ⟨free_flat (key := fun q : List Nat × Kd => q.1) (g := fun q => unitsI T n q.2) ?_ (fun q hq => dl_name ((w.2 i _ e).each q (by rw [← flds_at e]; exact hq)).1) fun q hq => (ih q hq).1, fun u hu => ?_⟩
    · rw [flds_at e]
      exact ok.fnd _ (List.getElem_mem r.1)
    · obtain ⟨q, hq, hu⟩ := List.mem_flatMap.mp hu
      obtain ⟨v, hv, rfl⟩ := List.mem_map.mp hu
      obtain ⟨a, b, c, d, e⟩ := (ih q hq).2 v hv
      exact ⟨a, b, c, d, e⟩
  | n + 1, m, .pick is, hk, hm, r => by
    obtain ⟨h1, h2⟩ := ins_apart ok.wf (n := n + 1) (k := .pick is) hk hm r
    have h3 := ins_paths ok (n := n + 1) (k := .pick is) hk hm r
    refine ⟨List.pairwise_singleton _ _, fun u hu => ?_⟩
    rw [List.mem_singleton.mp hu]
    have hcons : insideK T (n + 1) (.pick is) = ⟨tagW', 1, 0, []⟩ :: scanF (fun i c => ((insideK T n (.shp i)).map (ahead1 (nameT T i) 1)).map (chosen1 c)) (fun _ => 1) is 0 := rfl
    have htl : (insideK T (n + 1) (.pick is)).tail = scanF (fun i c => ((insideK T n (.shp i)).map (ahead1 (nameT T i) 1)).map (chosen1 c)) (fun _ => 1) is 0 := rfl
    have hall := (pick_apart (f := fun i => (insideK T n (.shp i)).map (ahead1 (nameT T i) 1)) (l := is) (o := 0) fun i hi => List.pairwise_map.mpr ((ins_apart ok.wf (k := .shp i) (m := m) (hk.2.2.2 i hi) hm (r.2.2 i hi)).2.imp apart_ahead)).2
    refine ⟨fun x hx => ?_, ?_, ?_, (fun h => by cases h), fun _ x hx => ?_⟩
    · obtain ⟨y, hy, rfl⟩ := List.mem_map.mp hx
      obtain ⟨g1, g2, g3⟩ := h1 y (List.mem_of_mem_tail hy)
      rw [htl] at hy
      obtain ⟨c, i, a, _, hi, ha, rfl⟩ := hall y hy
      obtain ⟨b, hb, rfl⟩ := List.mem_map.mp ha
      obtain ⟨g4, _, _⟩ := (ins_apart ok.wf (k := .shp i) (m := m) (hk.2.2.2 i hi) hm (r.2.2 i hi)).1 b hb
      have g2 : b.o + 1 + b.w ≤ 1 + maxL (is.map fun i => sizeK T n (.shp i)) := g2
      have g3 : 1 ≤ b.w := g3
      show 0 ≤ b.o + 1 + -1 ∧ b.o + 1 + -1 + b.w ≤ maxL _ ∧ 1 ≤ b.w
      omega
    · rw [hcons] at h2
      refine List.pairwise_map.mpr ((List.pairwise_cons.mp h2).2.imp fun {a b} h => ?_)
      rcases h with h | h | h
      · refine .inl ?_
        show a.o + -1 + a.w ≤ b.o + -1
        omega
      · refine .inr (.inl ?_)
        show b.o + -1 + b.w ≤ a.o + -1
        omega
      · exact .inr (.inr h)
    · rw [hcons, List.map_cons] at h3
      rw [List.map_map]
      exact (List.nodup_cons.mp h3).2
    · obtain ⟨y, hy, rfl⟩ := List.mem_map.mp hx
      rw [htl] at hy
      obtain ⟨c, i, a, _, hi, ha, rfl⟩ := hall y hy
      exact ⟨c, a.h, rfl⟩
/-! ### what the law asks -/
def meetP (a b : Lea) : Prop := a.u = b.u ∧ a.o < b.o + b.w ∧ b.o < a.o + a.w
def partP (a b : Lea) : Prop := ∃ q ∈ a.h, ∃ q' ∈ b.h, q.1 = q'.1 ∧ q.2 ≠ q'.2
structure LawK (L : List Lea) (Us : List Un) : Prop where
  keys : (Us.map fun u => u.1).Nodup
  each : ∀ r ∈ L, ∃ w s, (r.u, w, s) ∈ Us ∧ 0 ≤ r.o ∧ r.o + r.w ≤ w ∧ ((s = numW ∧ r.p = r.u ∧ r.w = w ∧ r.h = []) ∨ (s = pickW' ∧ ∃ c h, r.h = (r.u, c) :: h))
  two : L.Pairwise fun a b => meetP b a → partP b a
  paths : (L.map fun r => r.p).Nodup
  nums : ∀ p w, ((p, w, numW) : Un) ∈ Us → p ∈ L.map fun r => r.p
theorem joinE_nil (c : List Nat) : joinedE [] c = c := by
  unfold joinedE joinedL
  by_cases hc : c = []
  · rw [if_pos hc, hc]
  · rw [if_neg hc, if_pos rfl]
theorem leaf_mem {u : UI} {r : Lea} (h : r ∈ leafOf [] u) : ∃ x ∈ u.i, r = ⟨joinedE u.p x.p, x.w, u.p, x.o, x.h.map (hold1 u.p)⟩ := by
  unfold leafOf at h
  rw [joinE_nil] at h
  obtain ⟨x, hx, rfl⟩ := List.mem_map.mp h
  exact ⟨x, hx, rfl⟩
theorem law_holds {T : Tb} (ok : TabOk T) {i : Nat} (hi : i < T.length) : LawK (leavesK T 24 (.shp i) []) (unitsK T 24 (.shp i) []) := by
  have rk := wf_24 ok.wf hi
  obtain ⟨fr, uo⟩ := units_ok ok (k := .shp i) (m := T.length) hi (Nat.le_refl _) rk
  have eL := leaves_U (p := []) rk
  have eU := units_U (p := []) rk
  rw [eL, eU]
  generalize unitsI T 24 (.shp i) = us at fr uo
  have kn : numW ≠ pickW' := by decide
  refine ⟨?_, fun r hr => ?_, ?_, ?_, fun p w hp => ?_⟩
  · rw [List.map_flatMap, List.nodup_iff_pairwise_ne, List.pairwise_flatMap]
    refine ⟨fun u hu => ?_, fr.imp fun {a b} h x hx y hy e => ?_⟩
    · unfold keysOf
      by_cases g : u.k = true
      · rw [if_pos g, joinE_nil]
        refine List.pairwise_cons.mpr ⟨fun y hy e => ?_, List.pairwise_singleton _ _⟩
        rw [List.mem_singleton.mp hy] at e
        have e : joinedE u.p tagW' = u.p := e
        rw [← joinedE_nil (p := u.p), joinedE_assoc] at e
        exact absurd (joinE_can e) (by rw [joinE_nil]; exact dl_tag.1)
      · rw [if_neg g]
        exact List.pairwise_singleton _ _
    · have key : ∀ (u : UI) (x : List Nat), x ∈ (keysOf [] u).map (fun u => u.1) → ∃ r, x = joinedE u.p r := fun u x hx => by
        unfold keysOf at hx
        rw [joinE_nil] at hx
        by_cases g : u.k = true
        · rw [if_pos g] at hx
          rcases List.mem_cons.mp hx with rfl | hx
          · exact ⟨tagW', rfl⟩
          · rw [List.mem_singleton.mp hx]
            exact ⟨[], joinedE_nil.symm⟩
        · rw [if_neg g] at hx
          rw [List.mem_singleton.mp hx]
          exact ⟨[], joinedE_nil.symm⟩
      obtain ⟨r, rfl⟩ := key a x hx
      obtain ⟨r', rfl⟩ := key b y hy
      exact h r r' e
  · obtain ⟨u, hu, hr⟩ := List.mem_flatMap.mp hr
    obtain ⟨x, hx, rfl⟩ := leaf_mem hr
    have uk := uo u hu
    obtain ⟨w1, w2, w3⟩ := uk.wi x hx
    cases g : u.k with
    | false =>
      have := uk.nu g
      rw [this] at hx
      rw [List.mem_singleton.mp hx] at w1 w2 w3 ⊢
      refine ⟨u.w, numW, List.mem_flatMap.mpr ⟨u, hu, ?_⟩, w1, w2, .inl ⟨rfl, joinedE_nil, rfl, rfl⟩⟩
      unfold keysOf
      rw [if_neg (by rw [g]; decide), joinE_nil]
      exact List.mem_singleton.mpr rfl
    | true =>
      obtain ⟨c, h, eh⟩ := uk.pk g x hx
      refine ⟨u.w, pickW', List.mem_flatMap.mpr ⟨u, hu, ?_⟩, w1, w2, .inr ⟨rfl, c, h.map (hold1 u.p), ?_⟩⟩
      · unfold keysOf
        rw [if_pos g, joinE_nil]
        simp
      · show x.h.map (hold1 u.p) = _
        rw [eh, List.map_cons]
        show (joinedE u.p [], c) :: _ = _
        rw [joinedE_nil]
  · refine List.pairwise_flatMap.mpr ⟨fun u hu => ?_, fr.imp fun {a b} h x hx y hy m => ?_⟩
    · have uk := uo u hu
      unfold leafOf
      rw [joinE_nil]
      refine List.pairwise_map.mpr (uk.ap.imp fun {a b} hab m => ?_)
      obtain ⟨_, m1, m2⟩ := m
      have m1 : b.o < a.o + a.w := m1
      have m2 : a.o < b.o + b.w := m2
      rcases hab with hab | hab | ⟨q, hq, q', hq', e, ne⟩
      · omega
      · omega
      · exact ⟨hold1 u.p q', List.mem_map.mpr ⟨q', hq', rfl⟩, hold1 u.p q, List.mem_map.mpr ⟨q, hq, rfl⟩, by unfold hold1; rw [e], fun e2 => ne e2.symm⟩
    · obtain ⟨x', _, rfl⟩ := leaf_mem hx
      obtain ⟨y', _, rfl⟩ := leaf_mem hy
      have e : b.p = a.p := m.1
      exact absurd (by rw [e]) (h [] [])
  · rw [List.map_flatMap, List.nodup_iff_pairwise_ne, List.pairwise_flatMap]
    refine ⟨fun u hu => ?_, fr.imp fun {a b} h x hx y hy e => ?_⟩
    · have uk := uo u hu
      unfold leafOf
      rw [joinE_nil, List.map_map]
      refine List.pairwise_map.mpr ?_
      have := uk.nd
      rw [List.nodup_iff_pairwise_ne, List.pairwise_map] at this
      exact this.imp fun {a b} hab e => hab (joinE_can e)
    · obtain ⟨x0, hx0, rfl⟩ := List.mem_map.mp hx
      obtain ⟨y0, hy0, rfl⟩ := List.mem_map.mp hy
      obtain ⟨x', _, rfl⟩ := leaf_mem hx0
      obtain ⟨y', _, rfl⟩ := leaf_mem hy0
      exact h _ _ e
  · obtain ⟨u, hu, hp⟩ := List.mem_flatMap.mp hp
    unfold keysOf at hp
    rw [joinE_nil] at hp
    cases g : u.k with
    | true =>
      rw [if_pos g] at hp
      simp only [List.mem_cons, List.not_mem_nil, or_false, Prod.mk.injEq] at hp
      rcases hp with ⟨_, _, e⟩ | ⟨_, _, e⟩
      · exact absurd e (by decide)
      · exact absurd e (by decide)
    | false =>
      rw [if_neg (by rw [g]; decide)] at hp
      have e := List.mem_singleton.mp hp
      simp only [Prod.mk.injEq] at e
      refine List.mem_map.mpr ⟨⟨joinedE u.p [], u.w, u.p, 0, []⟩, List.mem_flatMap.mpr ⟨u, hu, ?_⟩, ?_⟩
      · unfold leafOf
        rw [joinE_nil, (uo u hu).nu g]
        exact List.mem_singleton.mpr rfl
      · show joinedE u.p [] = p
        rw [joinedE_nil, e.1]

end K10

set_option Elab.async false
set_option linter.all false
set_option pp.deepTerms true
set_option pp.maxSteps 100000
set_option format.indent 1
set_option format.width 260
set_option maxRecDepth 100000
set_option maxHeartbeats 4000000
set_option exponentiation.threshold 2000
namespace K10
open PySem PySem.Spec PyProof.Rows L2 Rb Rx SX Tx Rg Rt Rs Ru
local macro_rules | `(tactic| walk_at "rd") => `(tactic| simp only [L2.start, wMix, rRepr, rIsX, rIsXT, gSlAll, rEqS, rNeL, rNeV, rMulS, rEqL, rNotInT, rMax, tMethV, tListVals, tDGet, iEnum, tDIn, tDNotIn, sDPut, cxOf, tSeq, tAsg, tIfS, tTest, tB, tOp, tUn, tVar, tC, tCB, tCons, tNil, tRet, tRetN, tNext, tDrop, tBM, tBM0, tLst_n, tTup_n, tAnd, tOr, tNot, tAndV, tOrV, tNotV, tIf, tChain, tCall, gName, gTup, gCons, gNil, gUnl, gSub, rI, rI0, rU, rIxL, rIxT, rSlL_n, tSl, tPart, tNoPart, rCatR, rCatU, iEnumT, tOrT, rAppend_n, rExtend_n, rPop_n, rClear_n, rSetL_n, rInsert, rRemI_n, tMake_n, sFld_n, tFld, tMeth, rIn, tFor_n, tLc_n, iRngL1, iRngL2, iList, iTup, iRev, iZip, rDivmod, rListOf, rTupOf, rLenSeq, rMin2, rMax2, rAll, rAny, rIsi, tNever, tYes, wipe, tAug, ipI, rEq, rNe, tIsN, tNotN, tDNewK_n, tRz, tCallS, tMethX, tMakeX, tXfA, wAs, wOnly, tVeI, tOst, gSlS, iRng3, rSum, rStrI, rIsB, rNotB, rSlT, rIndex, rRep_n, rInt1, tLenSetS, scal_ii, scal_bb, scal_ss, scal_nn, scal_ni, scal_in, scal_ns, scal_sn, scal_is, scal_si, List.map_cons, List.map_nil, List.length_cons, List.length_nil, List.replicate, List.nil_append, List.cons_append, List.append_nil, List.getElem?_cons_zero, List.getElem?_cons_succ, List.set_cons_zero, List.set_cons_succ, List.set_nil, Nat.reduceAdd, Nat.reduceSub, Option.some.injEq, V.int.injEq, V.ref.injEq, V.bl.injEq, V.str.injEq, V.ty.injEq, List.cons.injEq, and_assoc, and_true, true_and, exists_eq_left, exists_eq_left', exists_and_left, exists_and_right, exists_eq, exists_eq', exists_eq_right, exists_eq_right', if_true, if_false, Bool.false_eq_true, Bool.not_true, Bool.not_false, if_pos, Int.toNat_natCast, decide_eq_true_eq, Bool.not_eq_true', decide_eq_false_iff_not, reduceCtorEq, false_and, and_false, exists_false, exists_const, rIxS, C8.rSlX, rJoinS, rSplitS, tBMS, rIndexX, iStr, tDisp, tPairs])
local macro_rules | `(tactic| walk_at "ex") => `(tactic| repeat' (first | assumption | (with_reducible refine Exists.intro _ ?_) | (with_reducible refine And.intro ?_ ?_) | rfl))

/-! ### leaves on the heap -/
def hdV (q : List Nat × Int) : List V := [.str (SX.S q.1), .int q.2]
def HdL (K : PySem.W.Frag) (H : Hp) (b : Addr) (h : List (List Nat × Int)) : Prop := ∃ ys, SqT K H b ys ∧ Tups K H ys (h.map hdV)
def LeR (K : PySem.W.Frag) (H : Hp) (x : V) (r : Lea) : Prop := ∃ a b, x = .ref a ∧ SqT K H a [.str (SX.S r.p), .int r.w, .str (SX.S r.u), .int r.o, .ref b] ∧ HdL K H b r.h
def InR (K : PySem.W.Frag) (H : Hp) (x : V) (r : Ins) : Prop := ∃ a b, x = .ref a ∧ SqT K H a [.str (SX.S r.p), .int r.w, .int r.o, .ref b] ∧ HdL K H b r.h
def LeL (K : PySem.W.Frag) (H : Hp) (l : Addr) (rs : List Lea) : Prop := ∃ xs, H l = some (.lst xs) ∧ Paired (LeR K H) xs rs
def InL (K : PySem.W.Frag) (H : Hp) (l : Addr) (rs : List Ins) : Prop := ∃ xs, H l = some (.lst xs) ∧ Paired (InR K H) xs rs
theorem HdL.keep {K : PySem.W.Frag} {H H1 : Hp} {b : Addr} {h : List (List Nat × Int)} (d : HdL K H b h) (k : KeepT K H H1) : HdL K H1 b h := let ⟨ys, h1, h2⟩ := d; ⟨ys, k _ _ h1, Tups.keep h2 k⟩
theorem HdL.same {K : PySem.W.Frag} {H H1 : Hp} {b : Addr} {h : List (List Nat × Int)} (d : HdL K H b h) (s : Same H H1) : HdL K H1 b h := d.keep (.same s)
theorem LeR.keep {K : PySem.W.Frag} {H H1 : Hp} {x : V} {r : Lea} (d : LeR K H x r) (k : KeepT K H H1) : LeR K H1 x r := let ⟨a, b, e, h1, h2⟩ := d; ⟨a, b, e, k _ _ h1, h2.keep k⟩
theorem InR.keep {K : PySem.W.Frag} {H H1 : Hp} {x : V} {r : Ins} (d : InR K H x r) (k : KeepT K H H1) : InR K H1 x r := let ⟨a, b, e, h1, h2⟩ := d; ⟨a, b, e, k _ _ h1, h2.keep k⟩
theorem pLe {K : PySem.W.Frag} {H H1 : Hp} {xs : List V} {rs : List Lea} (t : Paired (LeR K H) xs rs) (k : KeepT K H H1) : Paired (LeR K H1) xs rs := Paired.mapP t fun _ _ r => r.keep k
theorem pIn {K : PySem.W.Frag} {H H1 : Hp} {xs : List V} {rs : List Ins} (t : Paired (InR K H) xs rs) (k : KeepT K H H1) : Paired (InR K H1) xs rs := Paired.mapP t fun _ _ r => r.keep k
theorem LeL.same {K : PySem.W.Frag} {H H1 : Hp} {l : Addr} {rs : List Lea} (d : LeL K H l rs) (s : Same H H1) : LeL K H1 l rs := let ⟨xs, h1, h2⟩ := d; ⟨xs, s _ _ h1, pLe h2 (.same s)⟩
theorem InL.same {K : PySem.W.Frag} {H H1 : Hp} {l : Addr} {rs : List Ins} (d : InL K H l rs) (s : Same H H1) : InL K H1 l rs := let ⟨xs, h1, h2⟩ := d; ⟨xs, s _ _ h1, pIn h2 (.same s)⟩

/-! ### the program's leaves -/
def spKSp (K : PySem.W.Frag) (C : KC) (n : Nat) (pf : Kd → Bool) : Sp := fun vs H Q _ => ∃ (a : Addr) (k : Kd) (T : Tb) (ss : List Addr) (pa u : List Nat) (o : Int) (b : Addr) (h : List (List Nat × Int)), vs = [.ref a, .str (S pa), .str (S u), .int o, .ref b] ∧ KA C ss H k a ∧ TA C ss H T ∧ Rk T n k ∧ pf k = true ∧ n ≤ 24 ∧ pa.length + 20 * n ≤ 1000 ∧ u.length ≤ 1000 ∧ HdL K H b h ∧ h.length + n ≤ 100 ∧ (spreadK T n k pa u o h).length ≤ 100000 ∧ (∀ i, i < T.length → nameT T i ≠ []) ∧ ∀ l H1, H l = none → Same H H1 → LeL K H1 l (spreadK T n k pa u o h) → Q (.ref l) H1
theorem sum_ones {α : Type} : ∀ l : List α, (l.map fun _ => (1 : Int)).sum = (l.length : Int)
  | [] => rfl
  | x :: r => by
    rw [List.map_cons, List.sum_cons, sum_ones r, List.length_cons]
    omega
section
variable {P : Program} {w : World} {K : PySem.W.Frag} {mg : Str → Option Value} {base : Heap}
theorem spread_all {f_num f_ne f_ma f_pi C_Num C_Nested C_Many C_Pick C_Shape : Addr} {fd_num fd_ne fd_ma fd_pi : FuncData}
    (F1 : Fun K "spread" "Num.spread" s_Num_spread f_num fd_num) (F2 : Fun K "spread" "Nested.spread" s_Nested_spread f_ne fd_ne) (F3 : Fun K "spread" "Many.spread" s_Many_spread f_ma fd_ma) (F4 : Fun K "spread" "Pick.spread" s_Pick_spread f_pi fd_pi)
    (W1 : MethF K C_Num "spread" f_num fd_num ["self", "path", "unit", "offset", "holds"]) (W2 : MethF K C_Nested "spread" f_ne fd_ne ["self", "path", "unit", "offset", "holds"]) (W3 : MethF K C_Many "spread" f_ma fd_ma ["self", "path", "unit", "offset", "holds"]) (W4 : MethF K C_Pick "spread" f_pi fd_pi ["self", "path", "unit", "offset", "holds"])
    (A_Num_width : NoAttr K C_Num "width") (A_Nested_shape : NoAttr K C_Nested "shape") (A_Many_count : NoAttr K C_Many "count") (A_Many_kind : NoAttr K C_Many "kind") (A_Pick_shapes : NoAttr K C_Pick "shapes") (A_Shape_name : NoAttr K C_Shape "name") (A_Shape_fields : NoAttr K C_Shape "fields") (z_range : mg "range" = none) (z_str : mg "str" = none) (z_enumerate : mg "enumerate" = none) (D_joined : Dn P w K mg base CX0 1 "joined" ["path", "step"] spJoined)
    (N_Num_size : Nn P w K mg base CX0 99 C_Num "size" ["self"] (spKS ⟨C_Num, C_Nested, C_Many, C_Pick, C_Shape⟩ 24 isNumK)) (N_Nested_size : Nn P w K mg base CX0 99 C_Nested "size" ["self"] (spKS ⟨C_Num, C_Nested, C_Many, C_Pick, C_Shape⟩ 24 isShpK)) (N_Many_size : Nn P w K mg base CX0 99 C_Many "size" ["self"] (spKS ⟨C_Num, C_Nested, C_Many, C_Pick, C_Shape⟩ 24 isRowK)) (N_Pick_size : Nn P w K mg base CX0 99 C_Pick "size" ["self"] (spKS ⟨C_Num, C_Nested, C_Many, C_Pick, C_Shape⟩ 24 isPickK)) (M_Nested : Mn P w K mg base CX0 1 C_Nested "Nested" ["self", "shape"] (spNestedI C_Nested)) (K_Shape : Cls K C_Shape) :
    ∀ n, FnOk P w K mg base CX0 (n + 100) f_num fd_num ["self", "path", "unit", "offset", "holds"] (spKSp K ⟨C_Num, C_Nested, C_Many, C_Pick, C_Shape⟩ n isNumK) ∧ FnOk P w K mg base CX0 (n + 100) f_ne fd_ne ["self", "path", "unit", "offset", "holds"] (spKSp K ⟨C_Num, C_Nested, C_Many, C_Pick, C_Shape⟩ n isShpK) ∧ FnOk P w K mg base CX0 (n + 100) f_ma fd_ma ["self", "path", "unit", "offset", "holds"] (spKSp K ⟨C_Num, C_Nested, C_Many, C_Pick, C_Shape⟩ n isRowK) ∧ FnOk P w K mg base CX0 (n + 100) f_pi fd_pi ["self", "path", "unit", "offset", "holds"] (spKSp K ⟨C_Num, C_Nested, C_Many, C_Pick, C_Shape⟩ n isPickK)
  | 0 => by
    refine ⟨?_, ?_, ?_, ?_⟩
    · refine F1.ok sc_Num_spread (fun vs H Q E h => ?_) (fun cdv A outer s H vs Q E hr h => ?_) <;> obtain ⟨a, k, T, ss, pa, u, o, b, hh, rfl, _, _, h, _⟩ := h <;> exact h.elim
    · refine F2.ok sc_Nested_spread (fun vs H Q E h => ?_) (fun cdv A outer s H vs Q E hr h => ?_) <;> obtain ⟨a, k, T, ss, pa, u, o, b, hh, rfl, _, _, h, _⟩ := h <;> exact h.elim
    · refine F3.ok sc_Many_spread (fun vs H Q E h => ?_) (fun cdv A outer s H vs Q E hr h => ?_) <;> obtain ⟨a, k, T, ss, pa, u, o, b, hh, rfl, _, _, h, _⟩ := h <;> exact h.elim
    · refine F4.ok sc_Pick_spread (fun vs H Q E h => ?_) (fun cdv A outer s H vs Q E hr h => ?_) <;> obtain ⟨a, k, T, ss, pa, u, o, b, hh, rfl, _, _, h, _⟩ := h <;> exact h.elim
  | n + 1 => by
    obtain ⟨i1, i2, i3, i4⟩ := spread_all F1 F2 F3 F4 W1 W2 W3 W4 A_Num_width A_Nested_shape A_Many_count A_Many_kind A_Pick_shapes A_Shape_name A_Shape_fields z_range z_str z_enumerate D_joined N_Num_size N_Nested_size N_Many_size N_Pick_size M_Nested K_Shape n
    have N_Num_spread := W1.nn i1
    have N_Nested_spread := W2.nn i2
    have N_Many_spread := W3.nn i3
    have N_Pick_spread := W4.nn i4
    have K_Num := W1.cl
    have K_Nested := W2.cl
    have K_Many := W3.cl
    have K_Pick := W4.cl
    refine ⟨?_, ?_, ?_, ?_⟩
    · refine F1.ok sc_Num_spread (fun vs H Q E h => ?_) (fun cdv A outer s H vs Q E hr h => ?_)
      · obtain ⟨a, k, T, ss, pa, u, o, b, hh, rfl, _⟩ := h
        rfl
      · obtain ⟨a, k, T, ss, pa, u, o, b, hh, rfl, hk, ht, hrk, hp, hn, hpa, hu, hb, hhl, hl, hN, q⟩ := h
        refine ⟨_, (pss_cons (ps_if (pt_cmpR op_eq (pv 2) pe_str (nomark _)) (pss_one (ps_ret (pe_lst (pa_cons (pe_tup (pa_cons (pv 1) (pa_cons (pe_fldK (pv 0) rfl (K := K)) (pa_cons (pv 1) (pa_cons pe_int (pa_cons (pv 4) pa_nil)))))) pa_nil)))) pss_nil)
      (pss_one (ps_ret (pe_lst (pa_cons (pe_tup (pa_cons (pv 1) (pa_cons (pe_fldK (pv 0) rfl (K := K)) (pa_cons (pv 2) (pa_cons (pv 3) (pa_cons (pv 4) pa_nil)))))) pa_nil))))), ?_⟩
        walk_at "rd"
        cases k with
        | num w =>
          obtain ⟨dx, h1⟩ := hk
          by_cases g : u = []
          · rw [show spreadK T (n + 1) (.num w) pa u o hh = [⟨pa, (w : Int), pa, 0, hh⟩] from if_pos g] at q
            refine iteP (by rw [g, e_nix]) ⟨_, _, _, h1, K_Num, A_Num_width, _, lkw, by decide, New.intro fun t H1 n1 s1 g1 => ⟨by decide, New.intro fun l H2 n2 s2 g2 => ?_⟩⟩
            exact q l H2 (s1.free n2) (s1.trans s2) ⟨_, g2, .cons ⟨t, b, rfl, seqT_of (s2 _ _ g1), hb.same (s1.trans s2)⟩ .nil⟩
          · rw [show spreadK T (n + 1) (.num w) pa u o hh = [⟨pa, (w : Int), u, o, hh⟩] from if_neg g] at q
            refine iteN (fun e => g (by rw [e_nix] at e; exact S_inj e)) ⟨_, _, _, h1, K_Num, A_Num_width, _, lkw, by decide, New.intro fun t H1 n1 s1 g1 => ⟨by decide, New.intro fun l H2 n2 s2 g2 => ?_⟩⟩
            exact q l H2 (s1.free n2) (s1.trans s2) ⟨_, g2, .cons ⟨t, b, rfl, seqT_of (s2 _ _ g1), hb.same (s1.trans s2)⟩ .nil⟩
        | _ => cases hp
    · refine F2.ok sc_Nested_spread (fun vs H Q E h => ?_) (fun cdv A outer s H vs Q E hr h => ?_)
      · obtain ⟨a, k, T, ss, pa, u, o, b, hh, rfl, _⟩ := h
        rfl
      · obtain ⟨a, k, T, ss, pa, u, o, b, hh, rfl, hk, ht, hrk, hp, hn, hpa, hu, hb, hhl, hl, hN, q⟩ := h
        refine ⟨_, (pss_cons (ps_set (i := 5) sc_Nested_spread.nd rfl (by first | exact Or.inl rfl | exact Or.inr rfl) (pe_lst pa_nil))
      (pss_cons (ps_for PassesOwn.never rfl (pi_tupK (pe_fldK (pe_fldK (pv 0) rfl (K := K)) rfl (K := K)) (K := K)) (pg_tup rfl (pgs_cons (pg_name (i := 6) sc_Nested_spread.nd rfl (by first | exact Or.inl rfl | exact Or.inr rfl)) (pgs_cons (pg_name (i := 7) sc_Nested_spread.nd rfl (by first | exact Or.inl rfl | exact Or.inr rfl)) pgs_nil))) (pss_cons (ps_expr (pe_bmK (K := K) PySem.F.plainAttrs_list PySem.F.slot_list_extend PySem.F.type_list_extend mt_extend (pv 5) (pa_cons (pe_mdV (pv 7) (.cons N_Num_spread (.cons N_Nested_spread (.cons N_Many_spread (.cons N_Pick_spread .nil)))) (hr.mono (by first | decide | omega)) pass0 (pa_cons (pe_cd D_joined (hr.mono (by first | decide | omega)) (by rfl) pass0 (pa_cons (pv 1) (pa_cons (pv 6) pa_nil))) (pa_cons (pv 2) (pa_cons (pv 3) (pa_cons (pv 4) pa_nil))))) pa_nil)))
      (pss_one (ps_set (i := 3) sc_Nested_spread.nd rfl (by first | exact Or.inl rfl | exact Or.inr rfl) (pe_op op_add (pv 3) (pe_mdV0 (pv 7) (.cons N_Num_size (.cons N_Nested_size (.cons N_Many_size (.cons N_Pick_size .nil)))) (hr.mono (by first | decide | omega)) pass0))))))
      (pss_one (ps_ret (pv 5))))), ?_⟩
        walk_at "rd"
        cases k with
        | shp i =>
          obtain ⟨dx, s', hs', h1⟩ := hk
          obtain ⟨dx2, t2, ys, g1, g2, g3, hi⟩ := ht.shape hs'
          have hlen := Paired.length g3
          have hl2 : (scanF (fun q c => spreadK T n q.2 (joinedL pa q.1) u c hh) (fun q => sizeK T n q.2) (flds T i) o).length ≤ 100000 := hl
          refine ⟨by decide, New.intro fun l HA nl sA gA => ⟨_, _, _, sA _ _ h1, K_Nested, A_Nested_shape, _, lks, s', rfl, _, _, _, sA _ _ g1, K_Shape, A_Shape_fields, _, lkf, t2, rfl, ⟨_, seqT_of (sA _ _ g2)⟩, ?_⟩⟩
          refine Loop.tup (xs := ys) (fun j σ HB => ∃ y6 y7, σ = [some (.ref a), some (.str (S pa)), some (.str (S u)), some (.int (o + (((flds T i).take j).map fun q => sizeK T n q.2).sum)), some (.ref b), some (.ref l), y6, y7] ∧ Same H HB ∧ LeL K HB l (scanF (fun q c => spreadK T n q.2 (joinedL pa q.1) u c hh) (fun q => sizeK T n q.2) ((flds T i).take j) o)) ⟨_, _, by rw [List.take_zero, List.map_nil, List.sum_nil, Int.add_zero], sA, [], gA, .nil⟩ ?_ ?_ ?_
          · rintro j σ HB _ ⟨y6, y7, rfl, sB, uB⟩
            exact seqT_of (sB _ _ g2)
          · rintro j x σ HB hx ⟨y6, y7, rfl, sB, uB⟩
            obtain ⟨d, hd, e, c, rfl, he, hc⟩ := pget g3 hx
            obtain ⟨r1, r2, r3⟩ := hrk.2.2.2.2 d (List.mem_of_getElem? hd)
            have hcB := hc.same sB
            refine two_at (sB _ _ he) ?_
            walk_at "rd"
            obtain ⟨cl, dx3, fs, p, c1, c2, c3, c4⟩ := hcB.disp (m := "spread") (spKSp K ⟨C_Num, C_Nested, C_Many, C_Pick, C_Shape⟩ n) (by decide +kernel) (by decide +kernel) (by decide +kernel) (by decide +kernel) (by decide +kernel)
            obtain ⟨xa, ga, ta⟩ := uB
            have l1 := scanF_le (f := fun q c => spreadK T n q.2 (joinedL pa q.1) u c hh) (sz := fun q => sizeK T n q.2) (l := flds T i) (o := o) (j + 1)
            rw [scanF_snoc hd, List.length_append] at l1
            have l2 := joinedL_len pa d.1
            refine ⟨tyv_list (seq_of ga), cl, dx3, fs, c1, c2, _, c3, pa, d.1, rfl, r2, by omega, by omega, ?_⟩
            refine ⟨c, d.2, T, ss, _, u, _, b, hh, rfl, hcB, ht.same sB, r3, c4, by omega, by omega, hu, hb.same sB, by omega, by omega, hN, fun b1 HC nb sC uC => ?_⟩
            obtain ⟨xb, gb, tb⟩ := uC
            have e1 := Paired.length ta
            have e2 := Paired.length tb
            have gaC := sC _ _ ga
            refine ⟨b1, rfl, _, gaC, _, gb, by rw [sizeLine_eq]; omega, Upd.intro fun HD oD hD => ?_⟩
            have sD : Same H HD := Same.off (sB.trans sC) nl oD
            have hcD := hc.same sD
            obtain ⟨cl2, dx4, fs2, p2, v1, v2, v3, v4⟩ := hcD.disp (m := "size") (spKS ⟨C_Num, C_Nested, C_Many, C_Pick, C_Shape⟩ 24) (by decide +kernel) (by decide +kernel) (by decide +kernel) (by decide +kernel) (by decide +kernel)
            refine ⟨cl2, dx4, fs2, v1, v2, _, v3, c, d.2, T, ss, rfl, hcD, ht.same sD, r3.le (by omega), v4, fun HE sE => ⟨_, rfl, ?_, sD.trans sE, _, sE _ _ hD, ?_⟩⟩
            · rw [take_snoc hd, List.map_append, sum_app, sizeK_le r3 (show n ≤ 24 by omega)]
              simp
              omega
            · rw [scanF_snoc hd]
              have kk : KeepT K HC HE := fun _ _ z => Same.seqT sE (SqT.off oD gaC z)
              exact papp (pLe (pLe ta (.same sC)) kk) (pLe tb kk)
          · rintro σ HB ⟨y6, y7, rfl, sB, uB⟩
            walk_at "rd"
            rw [hlen, List.take_length] at uB
            exact q l HB nl sB uB
        | _ => cases hp
    · refine F3.ok sc_Many_spread (fun vs H Q E h => ?_) (fun cdv A outer s H vs Q E hr h => ?_)
      · obtain ⟨a, k, T, ss, pa, u, o, b, hh, rfl, _⟩ := h
        rfl
      · obtain ⟨a, k, T, ss, pa, u, o, b, hh, rfl, hk, ht, hrk, hp, hn, hpa, hu, hb, hhl, hl, hN, q⟩ := h
        refine ⟨_, (pss_cons (ps_set (i := 5) sc_Many_spread.nd rfl (by first | exact Or.inl rfl | exact Or.inr rfl) (pe_lst pa_nil))
      (pss_cons (ps_for PassesOwn.never rfl (pi_rangeL1 (by rfl) z_range (pa_cons (pe_fldK (pv 0) rfl (K := K)) pa_nil)) (pg_name (i := 6) sc_Many_spread.nd rfl (by first | exact Or.inl rfl | exact Or.inr rfl)) (pss_cons (ps_set (i := 7) sc_Many_spread.nd rfl (by first | exact Or.inl rfl | exact Or.inr rfl) (pe_op op_add (pv 3) (pe_op op_mul (pv 6) (pe_mdV0 (pe_fldK (pv 0) rfl (K := K)) (.cons N_Num_size (.cons N_Nested_size (.cons N_Many_size (.cons N_Pick_size .nil)))) (hr.mono (by first | decide | omega)) pass0))))
      (pss_one (ps_expr (pe_bmK (K := K) PySem.F.plainAttrs_list PySem.F.slot_list_extend PySem.F.type_list_extend mt_extend (pv 5) (pa_cons (pe_mdV (pe_fldK (pv 0) rfl (K := K)) (.cons N_Num_spread (.cons N_Nested_spread (.cons N_Many_spread (.cons N_Pick_spread .nil)))) (hr.mono (by first | decide | omega)) pass0 (pa_cons (pe_cd D_joined (hr.mono (by first | decide | omega)) (by rfl) pass0 (pa_cons (pv 1) (pa_cons (pe_callTy call_strI (by rfl) z_str (by decide +kernel) (pa_cons (pv 6) pa_nil)) pa_nil))) (pa_cons (pv 2) (pa_cons (pv 7) (pa_cons (pv 4) pa_nil))))) pa_nil))))))
      (pss_one (ps_ret (pv 5))))), ?_⟩
        walk_at "rd"
        cases k with
        | row m k =>
          obtain ⟨dx, b0, h1, h2⟩ := hk
          have hm := hrk.1
          have hl2 : ((List.range m).flatMap fun i => spreadK T n k (joinedL pa (TL.numL i)) u (o + (i : Int) * sizeK T n k) hh).length ≤ 100000 := hl
          refine ⟨by decide, New.intro fun l HA nl sA gA => ⟨_, _, _, sA _ _ h1, K_Many, A_Many_count, _, lkc, _, rfl, ?_⟩⟩
          refine Loop.range (fun i σ HB => ∃ y6 y7, σ = [some (.ref a), some (.str (S pa)), some (.str (S u)), some (.int o), some (.ref b), some (.ref l), y6, y7] ∧ Same H HB ∧ LeL K HB l ((List.range i).flatMap fun i => spreadK T n k (joinedL pa (TL.numL i)) u (o + (i : Int) * sizeK T n k) hh)) ⟨_, _, rfl, sA, [], gA, .nil⟩ ?_ ?_
          · rintro i σ HB hi ⟨y6, y7, rfl, sB, uB⟩
            have hi' : i < m := by rw [Int.toNat_natCast] at hi; exact hi
            walk_at "rd"
            have hcB := h2.same sB
            obtain ⟨cl, dx3, fs, p, c1, c2, c3, c4⟩ := hcB.disp (m := "size") (spKS ⟨C_Num, C_Nested, C_Many, C_Pick, C_Shape⟩ 24) (by decide +kernel) (by decide +kernel) (by decide +kernel) (by decide +kernel) (by decide +kernel)
            rw [Int.zero_add]
            refine ⟨_, _, _, sB _ _ h1, K_Many, A_Many_kind, _, lkk, b0, rfl, cl, dx3, fs, c1, c2, _, c3, b0, k, T, ss, rfl, hcB, ht.same sB, hrk.2.le (by omega), c4, fun HC sC => ⟨_, rfl, .inl ⟨by omega, by omega⟩, ?_⟩⟩
            have sC' := sB.trans sC
            have hcC := h2.same sC'
            have uC := uB.same sC
            obtain ⟨cl2, dx4, fs2, p2, v1, v2, v3, v4⟩ := hcC.disp (m := "spread") (spKSp K ⟨C_Num, C_Nested, C_Many, C_Pick, C_Shape⟩ n) (by decide +kernel) (by decide +kernel) (by decide +kernel) (by decide +kernel) (by decide +kernel)
            obtain ⟨xa, ga, ta⟩ := uC
            refine ⟨tyv_list (seq_of ga), _, _, _, sC' _ _ h1, K_Many, A_Many_kind, _, lkk, b0, rfl, cl2, dx4, fs2, v1, v2, _, v3, str_small (by omega), ?_⟩
            rw [num_S]
            have h3 := numL_3 (i := i) (by omega)
            refine ⟨pa, TL.numL i, rfl, TL.numL_ne i, by omega, by omega, ?_⟩
            have l1 := fm_le (f := fun i => spreadK T n k (joinedL pa (TL.numL i)) u (o + (i : Int) * sizeK T n k) hh) (show i + 1 ≤ m by omega)
            rw [fm_snoc, List.length_append] at l1
            have l2 := joinedL_len pa (TL.numL i)
            rw [sizeK_le hrk.2 (show n ≤ 24 by omega)]
            refine ⟨b0, k, T, ss, _, u, _, b, hh, rfl, hcC, ht.same sC', hrk.2, v4, by omega, by omega, hu, hb.same sC', by omega, by omega, hN, fun b1 HD nb sD uD => ?_⟩
            obtain ⟨xb, gb, tb⟩ := uD
            have e1 := Paired.length ta
            have e2 := Paired.length tb
            have gaD := sD _ _ ga
            refine ⟨b1, rfl, _, gaD, _, gb, by rw [sizeLine_eq]; omega, Upd.intro fun HE oE hE => ⟨Same.off (sC'.trans sD) nl oE, _, hE, ?_⟩⟩
            rw [fm_snoc]
            have kk : KeepT K HD HE := .off oE gaD
            exact papp (pLe (pLe ta (.same sD)) kk) (pLe tb kk)
          · rintro σ HB ⟨y6, y7, rfl, sB, uB⟩
            walk_at "rd"
            rw [Int.toNat_natCast] at uB
            exact q l HB nl sB uB
        | _ => cases hp
    · refine F4.ok sc_Pick_spread (fun vs H Q E h => ?_) (fun cdv A outer s H vs Q E hr h => ?_)
      · obtain ⟨a, k, T, ss, pa, u, o, b, hh, rfl, _⟩ := h
        rfl
      · obtain ⟨a, k, T, ss, pa, u, o, b, hh, rfl, hk, ht, hrk, hp, hn, hpa, hu, hb, hhl, hl, hN, q⟩ := h
        refine ⟨_, (pss_cons (ps_set (i := 5) sc_Pick_spread.nd rfl (by first | exact Or.inl rfl | exact Or.inr rfl) (pe_lst pa_nil))
      (pss_cons (ps_set (i := 6) sc_Pick_spread.nd rfl (by first | exact Or.inl rfl | exact Or.inr rfl) pe_int)
      (pss_cons (ps_if (pt_cmpR op_ne (pv 2) pe_str (nomark _)) (pss_cons (ps_expr (pe_bmK (K := K) PySem.F.plainAttrs_list PySem.F.slot_list_append PySem.F.type_list_append mt_append (pv 5) (pa_cons (pe_tup (pa_cons (pe_cd D_joined (hr.mono (by first | decide | omega)) (by rfl) pass0 (pa_cons (pv 1) (pa_cons pe_str pa_nil))) (pa_cons pe_int (pa_cons (pv 2) (pa_cons (pv 3) (pa_cons (pv 4) pa_nil)))))) pa_nil)))
      (pss_one (ps_set (i := 6) sc_Pick_spread.nd rfl (by first | exact Or.inl rfl | exact Or.inr rfl) (pe_op op_add (pv 3) pe_int)))) pss_nil)
      (pss_cons (ps_for PassesOwn.never rfl (pi_enumT (by rfl) z_enumerate (pa_cons (pe_fldK (pv 0) rfl (K := K)) pa_nil) (K := K)) (pg_tup rfl (pgs_cons (pg_name (i := 7) sc_Pick_spread.nd rfl (by first | exact Or.inl rfl | exact Or.inr rfl)) (pgs_cons (pg_name (i := 8) sc_Pick_spread.nd rfl (by first | exact Or.inl rfl | exact Or.inr rfl)) pgs_nil))) (pss_cons (ps_set (i := 9) sc_Pick_spread.nd rfl (by first | exact Or.inl rfl | exact Or.inr rfl) (pe_op (op_catU (K := K)) (pv 4) (pe_tup (pa_cons (pe_tup (pa_cons (pv 1) (pa_cons (pv 7) pa_nil))) pa_nil))))
      (pss_one (ps_expr (pe_bmK (K := K) PySem.F.plainAttrs_list PySem.F.slot_list_extend PySem.F.type_list_extend mt_extend (pv 5) (pa_cons (pe_md (pe_mk M_Nested (hr.mono (by first | decide | omega)) (by rfl) pass0 (pa_cons (pv 8) pa_nil)) N_Nested_spread (hr.mono (by first | decide | omega)) pass0 (pa_cons (pe_cd D_joined (hr.mono (by first | decide | omega)) (by rfl) pass0 (pa_cons (pv 1) (pa_cons (pe_fldK (pv 8) rfl (K := K)) pa_nil))) (pa_cons (pe_orTK (pv 2) (pe_one (pv 1)) (K := K)) (pa_cons (pv 6) (pa_cons (pv 9) pa_nil))))) pa_nil))))))
      (pss_one (ps_ret (pv 5))))))), ?_⟩
        walk_at "rd"
        cases k with
        | pick is =>
          have hk' := hk
          obtain ⟨dx, t, ps, h1, h2, h3⟩ := hk
          have hlen := Paired.length h3
          obtain ⟨U, hU⟩ : ∃ U, U = (if u = [] then pa else u) := ⟨_, rfl⟩
          obtain ⟨bg, hbg⟩ : ∃ bg : Int, bg = (if u = [] then 0 else o + 1) := ⟨_, rfl⟩
          obtain ⟨pre, hpre⟩ : ∃ pre, pre = (if u = [] then [] else [(⟨joinedL pa tagW', 1, u, o, hh⟩ : Lea)]) := ⟨_, rfl⟩
          obtain ⟨F, hF⟩ : ∃ F, F = (fun (i : Nat) (c : Int) => spreadK T n (.shp i) (joinedL pa (nameT T i)) U bg (hh ++ [(pa, c)])) := ⟨_, rfl⟩
          have eS : spreadK T (n + 1) (.pick is) pa u o hh = pre ++ scanF F (fun _ => 1) is 0 := by
            rw [hF, hpre, hbg, hU]
            rfl
          rw [eS] at hl q
          rw [List.length_append] at hl
          have hU1 : U.length ≤ 1000 := by
            rw [hU]
            split <;> omega
          refine ⟨by decide, New.intro fun l H1 nl s1 g0 => ?_⟩
          refine ite2 (fun gu => ?cA) (fun gu => ?cB)
          case' cA =>
            have gu' : ¬ u = [] := fun e => gu (by rw [e, e_nix])
            rw [if_neg gu'] at hU hbg hpre
            obtain ⟨kb, hkb, hkv⟩ : ∃ kb : Bool, kb = true ∧ ((S u).length ≤ sizeLine ∧ kb = (((S u).length : Int) != 0)) := ⟨true, rfl, by rw [S_len, sizeLine_eq]; omega, by rw [S_len]; simp [gu']⟩
            refine ⟨tyv_list (seq_of g0), pa, tagW', by rw [e_tag], by decide, by omega, by decide, by decide, New.intro fun t1 H2 n2 s2 g2 => ⟨_, s2 _ _ g0, by decide, Upd.intro fun HA oA hA => ?_⟩⟩
            have sA : Same H HA := Same.off (s1.trans s2) nl oA
            have kk : KeepT K H2 HA := .off oA (s2 _ _ g0)
            have gA : LeL K HA l pre := ⟨_, hA, by rw [hpre]; exact .cons ⟨t1, b, rfl, kk _ _ (seqT_of g2), ((hb.same (s1.trans s2)).keep kk)⟩ .nil⟩
          case' cB =>
            have gu' : u = [] := Classical.byContradiction fun e => gu fun e2 => e (by rw [e_nix] at e2; exact S_inj e2)
            rw [if_pos gu'] at hU hbg hpre
            obtain ⟨kb, hkb, hkv⟩ : ∃ kb : Bool, kb = false ∧ ((S u).length ≤ sizeLine ∧ kb = (((S u).length : Int) != 0)) := ⟨false, rfl, by rw [S_len, sizeLine_eq]; omega, by rw [S_len]; simp [gu']⟩
            have sA : Same H H1 := s1
            have gA : LeL K H1 l pre := ⟨_, g0, by rw [hpre]; exact .nil⟩
          all_goals
            refine ⟨_, _, _, sA _ _ h1, K_Pick, A_Pick_shapes, _, lkp, t, rfl, ⟨_, seqT_of (sA _ _ h2)⟩, ?_⟩
            refine Loop.enumT (xs := ps) (fun j σ HB => ∃ y7 y8 y9, σ = [some (.ref a), some (.str (S pa)), some (.str (S u)), some (.int o), some (.ref b), some (.ref l), some (.int bg), y7, y8, y9] ∧ Same H HB ∧ LeL K HB l (pre ++ scanF F (fun _ => 1) (is.take j) 0)) ⟨_, _, _, by rw [hbg], sA, by rw [List.take_zero]; exact (List.append_nil _).symm ▸ gA⟩ ?_ ?_ ?_
            · rintro j σ HB _ ⟨y7, y8, y9, rfl, sB, uB⟩
              exact seqT_of (sB _ _ h2)
            · rintro j x σ HB Tt HC hx ⟨y7, y8, y9, rfl, sB, uB⟩ nT sC gT
              obtain ⟨i, hi, s', hs', rfl⟩ := pget h3 hx
              obtain ⟨dx2, t2, ys2, g1, g2, g3, hiT⟩ := ht.shape hs'
              have sBC := sB.trans sC
              refine two_at gT ?_
              walk_at "rd"
              obtain ⟨zs, hzs, hzt⟩ := hb
              have hzl := hzt.len
              rw [List.length_map] at hzl
              refine ⟨by decide, New.intro fun p1 HD nD sD gD => ⟨by decide, New.intro fun p2 HE nE sE gE => ?_⟩⟩
              have sE' := sBC.trans (sD.trans sE)
              refine ⟨_, Same.seqT sE' hzs, _, seqT_of gE, by rw [sizeLine_eq, List.length_singleton]; omega, fun p3 HF' sF gF => ?_⟩
              have sF' := sE'.trans sF
              have hd3 : HdL K HF' p3 (hh ++ [(pa, (j : Int))]) := ⟨_, gF, by
                rw [List.map_append]
                exact (hzt.same sF').append (.cons ⟨p1, rfl, seqT_of ((sE.trans sF) _ _ gD)⟩ .nil)⟩
              have uF := uB.same (sC.trans (sD.trans (sE.trans sF)))
              obtain ⟨xa, ga, ta⟩ := uF
              refine ⟨tyv_list (seq_of ga), Made.intro fun q1 dxq HG nG sG gG => ⟨q1, dxq, _, rfl, gG, fun HI oI gI => ⟨rfl, _, _, gI, lkno1 (by decide +kernel), ?_⟩⟩⟩
              have sGI : Same HF' HI := Same.off sG nG oI
              have sI := sF'.trans sGI
              have ri := hrk.2.2 i (List.mem_of_getElem? hi)
              have hnl : (nameT T i).length ≤ 10 := by
                cases n with
                | zero => exact ri.elim
                | succ n => exact ri.2.1
              have hj : j < is.length := (List.getElem?_eq_some_iff.mp hi).1
              have l1 := scanF_le (f := F) (sz := fun _ => 1) (l := is) (o := 0) (j + 1)
              rw [scanF_snoc hi, List.length_append, sum_ones, List.length_take, Nat.min_eq_left (Nat.le_of_lt hj), Int.zero_add] at l1
              have l2 := joinedL_len pa (nameT T i)
              have eFj : F i (j : Int) = spreadK T n (.shp i) (joinedL pa (nameT T i)) U bg (hh ++ [(pa, (j : Int))]) := by rw [hF]
              rw [eFj] at l1
              refine ⟨_, _, _, sI _ _ g1, K_Shape, A_Shape_name, _, lkn, pa, nameT T i, rfl, hN i hiT, by omega, by omega, ?_⟩
              refine ⟨kb, hkv, ?_⟩
              rw [hkb]
              first | rw [if_pos rfl] | rw [if_neg (by decide)]
              refine ⟨q1, .shp i, T, ss, joinedL pa (nameT T i), U, bg, p3, hh ++ [(pa, (j : Int))], by rw [hU], ⟨dxq, s', hs', gI⟩, ht.same sI, ri, rfl, by omega, by omega, hU1, hd3.same sGI, by rw [List.length_append, List.length_singleton]; omega, by omega, hN, fun b1 HJ nJ sJ uJ => ?_⟩
              obtain ⟨xb, gb, tb⟩ := uJ
              have e1 := Paired.length ta
              have e2 := Paired.length tb
              rw [List.length_append] at e1
              have gaJ := (sGI.trans sJ) _ _ ga
              refine ⟨b1, rfl, _, gaJ, _, gb, by rw [sizeLine_eq]; omega, Upd.intro fun HK oK hK => ⟨Same.off (sI.trans sJ) nl oK, _, hK, ?_⟩⟩
              rw [scanF_snoc hi, sum_ones, List.length_take, Nat.min_eq_left (Nat.le_of_lt hj), Int.zero_add, eFj, ← List.append_assoc]
              have kk : KeepT K HJ HK := .off oK gaJ
              exact papp (pLe (pLe ta (.same (sGI.trans sJ))) kk) (pLe tb kk)
            · rintro σ HB ⟨y7, y8, y9, rfl, sB, uB⟩
              walk_at "rd"
              rw [hlen, List.take_length] at uB
              exact q l HB nl sB uB
        | _ => cases hp
end

end K10

set_option Elab.async false
set_option linter.all false
set_option pp.deepTerms true
set_option pp.maxSteps 100000
set_option format.indent 1
set_option format.width 260
set_option maxRecDepth 100000
set_option maxHeartbeats 4000000
set_option exponentiation.threshold 2000
namespace K10
open PySem PySem.Spec PyProof.Rows L2 Rb Rx SX Tx Rg Rt Rs Ru
local macro_rules | `(tactic| walk_at "rd") => `(tactic| simp only [L2.start, wMix, rRepr, rIsX, rIsXT, gSlAll, rEqS, rNeL, rNeV, rMulS, rEqL, rNotInT, rMax, tMethV, tListVals, tDGet, iEnum, tDIn, tDNotIn, sDPut, cxOf, tSeq, tAsg, tIfS, tTest, tB, tOp, tUn, tVar, tC, tCB, tCons, tNil, tRet, tRetN, tNext, tDrop, tBM, tBM0, tLst_n, tTup_n, tAnd, tOr, tNot, tAndV, tOrV, tNotV, tIf, tChain, tCall, gName, gTup, gCons, gNil, gUnl, gSub, rI, rI0, rU, rIxL, rIxT, rSlL_n, tSl, tPart, tNoPart, rCatR, rCatU, iEnumT, tOrT, rAppend_n, rExtend_n, rPop_n, rClear_n, rSetL_n, rInsert, rRemI_n, tMake_n, sFld_n, tFld, tMeth, rIn, tFor_n, tLc_n, iRngL1, iRngL2, iList, iTup, iRev, iZip, rDivmod, rListOf, rTupOf, rLenSeq, rMin2, rMax2, rAll, rAny, rIsi, tNever, tYes, wipe, tAug, ipI, rEq, rNe, tIsN, tNotN, tDNewK_n, tRz, tCallS, tMethX, tMakeX, tXfA, wAs, wOnly, tVeI, tOst, gSlS, iRng3, rSum, rStrI, rIsB, rNotB, rSlT, rIndex, rRep_n, rInt1, tLenSetS, scal_ii, scal_bb, scal_ss, scal_nn, scal_ni, scal_in, scal_ns, scal_sn, scal_is, scal_si, List.map_cons, List.map_nil, List.length_cons, List.length_nil, List.replicate, List.nil_append, List.cons_append, List.append_nil, List.getElem?_cons_zero, List.getElem?_cons_succ, List.set_cons_zero, List.set_cons_succ, List.set_nil, Nat.reduceAdd, Nat.reduceSub, Option.some.injEq, V.int.injEq, V.ref.injEq, V.bl.injEq, V.str.injEq, V.ty.injEq, List.cons.injEq, and_assoc, and_true, true_and, exists_eq_left, exists_eq_left', exists_and_left, exists_and_right, exists_eq, exists_eq', exists_eq_right, exists_eq_right', if_true, if_false, Bool.false_eq_true, Bool.not_true, Bool.not_false, if_pos, Int.toNat_natCast, decide_eq_true_eq, Bool.not_eq_true', decide_eq_false_iff_not, reduceCtorEq, false_and, and_false, exists_false, exists_const, rIxS, C8.rSlX, rJoinS, rSplitS, tBMS, rIndexX, iStr, tDisp, tPairs])
local macro_rules | `(tactic| walk_at "ex") => `(tactic| repeat' (first | assumption | (with_reducible refine Exists.intro _ ?_) | (with_reducible refine And.intro ?_ ?_) | rfl))

section
variable {P : Program} {w : World} {K : PySem.W.Frag} {mg : Str → Option Value} {base : Heap}
theorem ok_Num_spread {f f_Nested_spread f_Many_spread f_Pick_spread C_Num C_Nested C_Many C_Pick C_Shape : Addr} {fd fd_Nested_spread fd_Many_spread fd_Pick_spread : FuncData}
    (F : Fun K "spread" "Num.spread" s_Num_spread f fd) (F_Nested_spread : Fun K "spread" "Nested.spread" s_Nested_spread f_Nested_spread fd_Nested_spread) (F_Many_spread : Fun K "spread" "Many.spread" s_Many_spread f_Many_spread fd_Many_spread) (F_Pick_spread : Fun K "spread" "Pick.spread" s_Pick_spread f_Pick_spread fd_Pick_spread)
    (W_Num_spread : MethF K C_Num "spread" f fd ["self", "path", "unit", "offset", "holds"]) (W_Nested_spread : MethF K C_Nested "spread" f_Nested_spread fd_Nested_spread ["self", "path", "unit", "offset", "holds"]) (W_Many_spread : MethF K C_Many "spread" f_Many_spread fd_Many_spread ["self", "path", "unit", "offset", "holds"]) (W_Pick_spread : MethF K C_Pick "spread" f_Pick_spread fd_Pick_spread ["self", "path", "unit", "offset", "holds"])
    (A_Num_width : NoAttr K C_Num "width") (A_Nested_shape : NoAttr K C_Nested "shape") (A_Many_count : NoAttr K C_Many "count") (A_Many_kind : NoAttr K C_Many "kind") (A_Pick_shapes : NoAttr K C_Pick "shapes") (A_Shape_name : NoAttr K C_Shape "name") (A_Shape_fields : NoAttr K C_Shape "fields") (z_range : mg "range" = none) (z_str : mg "str" = none) (z_enumerate : mg "enumerate" = none) (D_joined : Dn P w K mg base CX0 1 "joined" ["path", "step"] spJoined) (N_Num_size : Nn P w K mg base CX0 99 C_Num "size" ["self"] (spKS ⟨C_Num, C_Nested, C_Many, C_Pick, C_Shape⟩ 24 isNumK)) (N_Nested_size : Nn P w K mg base CX0 99 C_Nested "size" ["self"] (spKS ⟨C_Num, C_Nested, C_Many, C_Pick, C_Shape⟩ 24 isShpK)) (N_Many_size : Nn P w K mg base CX0 99 C_Many "size" ["self"] (spKS ⟨C_Num, C_Nested, C_Many, C_Pick, C_Shape⟩ 24 isRowK)) (N_Pick_size : Nn P w K mg base CX0 99 C_Pick "size" ["self"] (spKS ⟨C_Num, C_Nested, C_Many, C_Pick, C_Shape⟩ 24 isPickK)) (M_Nested : Mn P w K mg base CX0 1 C_Nested "Nested" ["self", "shape"] (spNestedI C_Nested)) (K_Shape : Cls K C_Shape) : FnOk P w K mg base CX0 124 f fd ["self", "path", "unit", "offset", "holds"] (spKSp K ⟨C_Num, C_Nested, C_Many, C_Pick, C_Shape⟩ 24 isNumK) := by
  exact (spread_all F F_Nested_spread F_Many_spread F_Pick_spread W_Num_spread W_Nested_spread W_Many_spread W_Pick_spread A_Num_width A_Nested_shape A_Many_count A_Many_kind A_Pick_shapes A_Shape_name A_Shape_fields z_range z_str z_enumerate D_joined N_Num_size N_Nested_size N_Many_size N_Pick_size M_Nested K_Shape 24).1
theorem ok_Nested_spread {f_Num_spread f f_Many_spread f_Pick_spread C_Num C_Nested C_Many C_Pick C_Shape : Addr} {fd_Num_spread fd fd_Many_spread fd_Pick_spread : FuncData}
    (F_Num_spread : Fun K "spread" "Num.spread" s_Num_spread f_Num_spread fd_Num_spread) (F : Fun K "spread" "Nested.spread" s_Nested_spread f fd) (F_Many_spread : Fun K "spread" "Many.spread" s_Many_spread f_Many_spread fd_Many_spread) (F_Pick_spread : Fun K "spread" "Pick.spread" s_Pick_spread f_Pick_spread fd_Pick_spread)
    (W_Num_spread : MethF K C_Num "spread" f_Num_spread fd_Num_spread ["self", "path", "unit", "offset", "holds"]) (W_Nested_spread : MethF K C_Nested "spread" f fd ["self", "path", "unit", "offset", "holds"]) (W_Many_spread : MethF K C_Many "spread" f_Many_spread fd_Many_spread ["self", "path", "unit", "offset", "holds"]) (W_Pick_spread : MethF K C_Pick "spread" f_Pick_spread fd_Pick_spread ["self", "path", "unit", "offset", "holds"])
    (A_Num_width : NoAttr K C_Num "width") (A_Nested_shape : NoAttr K C_Nested "shape") (A_Many_count : NoAttr K C_Many "count") (A_Many_kind : NoAttr K C_Many "kind") (A_Pick_shapes : NoAttr K C_Pick "shapes") (A_Shape_name : NoAttr K C_Shape "name") (A_Shape_fields : NoAttr K C_Shape "fields") (z_range : mg "range" = none) (z_str : mg "str" = none) (z_enumerate : mg "enumerate" = none) (D_joined : Dn P w K mg base CX0 1 "joined" ["path", "step"] spJoined) (N_Num_size : Nn P w K mg base CX0 99 C_Num "size" ["self"] (spKS ⟨C_Num, C_Nested, C_Many, C_Pick, C_Shape⟩ 24 isNumK)) (N_Nested_size : Nn P w K mg base CX0 99 C_Nested "size" ["self"] (spKS ⟨C_Num, C_Nested, C_Many, C_Pick, C_Shape⟩ 24 isShpK)) (N_Many_size : Nn P w K mg base CX0 99 C_Many "size" ["self"] (spKS ⟨C_Num, C_Nested, C_Many, C_Pick, C_Shape⟩ 24 isRowK)) (N_Pick_size : Nn P w K mg base CX0 99 C_Pick "size" ["self"] (spKS ⟨C_Num, C_Nested, C_Many, C_Pick, C_Shape⟩ 24 isPickK)) (M_Nested : Mn P w K mg base CX0 1 C_Nested "Nested" ["self", "shape"] (spNestedI C_Nested)) (K_Shape : Cls K C_Shape) : FnOk P w K mg base CX0 124 f fd ["self", "path", "unit", "offset", "holds"] (spKSp K ⟨C_Num, C_Nested, C_Many, C_Pick, C_Shape⟩ 24 isShpK) := by
  exact (spread_all F_Num_spread F F_Many_spread F_Pick_spread W_Num_spread W_Nested_spread W_Many_spread W_Pick_spread A_Num_width A_Nested_shape A_Many_count A_Many_kind A_Pick_shapes A_Shape_name A_Shape_fields z_range z_str z_enumerate D_joined N_Num_size N_Nested_size N_Many_size N_Pick_size M_Nested K_Shape 24).2.1
theorem ok_Many_spread {f_Num_spread f_Nested_spread f f_Pick_spread C_Num C_Nested C_Many C_Pick C_Shape : Addr} {fd_Num_spread fd_Nested_spread fd fd_Pick_spread : FuncData}
    (F_Num_spread : Fun K "spread" "Num.spread" s_Num_spread f_Num_spread fd_Num_spread) (F_Nested_spread : Fun K "spread" "Nested.spread" s_Nested_spread f_Nested_spread fd_Nested_spread) (F : Fun K "spread" "Many.spread" s_Many_spread f fd) (F_Pick_spread : Fun K "spread" "Pick.spread" s_Pick_spread f_Pick_spread fd_Pick_spread)
    (W_Num_spread : MethF K C_Num "spread" f_Num_spread fd_Num_spread ["self", "path", "unit", "offset", "holds"]) (W_Nested_spread : MethF K C_Nested "spread" f_Nested_spread fd_Nested_spread ["self", "path", "unit", "offset", "holds"]) (W_Many_spread : MethF K C_Many "spread" f fd ["self", "path", "unit", "offset", "holds"]) (W_Pick_spread : MethF K C_Pick "spread" f_Pick_spread fd_Pick_spread ["self", "path", "unit", "offset", "holds"])
    (A_Num_width : NoAttr K C_Num "width") (A_Nested_shape : NoAttr K C_Nested "shape") (A_Many_count : NoAttr K C_Many "count") (A_Many_kind : NoAttr K C_Many "kind") (A_Pick_shapes : NoAttr K C_Pick "shapes") (A_Shape_name : NoAttr K C_Shape "name") (A_Shape_fields : NoAttr K C_Shape "fields") (z_range : mg "range" = none) (z_str : mg "str" = none) (z_enumerate : mg "enumerate" = none) (D_joined : Dn P w K mg base CX0 1 "joined" ["path", "step"] spJoined) (N_Num_size : Nn P w K mg base CX0 99 C_Num "size" ["self"] (spKS ⟨C_Num, C_Nested, C_Many, C_Pick, C_Shape⟩ 24 isNumK)) (N_Nested_size : Nn P w K mg base CX0 99 C_Nested "size" ["self"] (spKS ⟨C_Num, C_Nested, C_Many, C_Pick, C_Shape⟩ 24 isShpK)) (N_Many_size : Nn P w K mg base CX0 99 C_Many "size" ["self"] (spKS ⟨C_Num, C_Nested, C_Many, C_Pick, C_Shape⟩ 24 isRowK)) (N_Pick_size : Nn P w K mg base CX0 99 C_Pick "size" ["self"] (spKS ⟨C_Num, C_Nested, C_Many, C_Pick, C_Shape⟩ 24 isPickK)) (M_Nested : Mn P w K mg base CX0 1 C_Nested "Nested" ["self", "shape"] (spNestedI C_Nested)) (K_Shape : Cls K C_Shape) : FnOk P w K mg base CX0 124 f fd ["self", "path", "unit", "offset", "holds"] (spKSp K ⟨C_Num, C_Nested, C_Many, C_Pick, C_Shape⟩ 24 isRowK) := by
  exact (spread_all F_Num_spread F_Nested_spread F F_Pick_spread W_Num_spread W_Nested_spread W_Many_spread W_Pick_spread A_Num_width A_Nested_shape A_Many_count A_Many_kind A_Pick_shapes A_Shape_name A_Shape_fields z_range z_str z_enumerate D_joined N_Num_size N_Nested_size N_Many_size N_Pick_size M_Nested K_Shape 24).2.2.1
theorem ok_Pick_spread {f_Num_spread f_Nested_spread f_Many_spread f C_Num C_Nested C_Many C_Pick C_Shape : Addr} {fd_Num_spread fd_Nested_spread fd_Many_spread fd : FuncData}
    (F_Num_spread : Fun K "spread" "Num.spread" s_Num_spread f_Num_spread fd_Num_spread) (F_Nested_spread : Fun K "spread" "Nested.spread" s_Nested_spread f_Nested_spread fd_Nested_spread) (F_Many_spread : Fun K "spread" "Many.spread" s_Many_spread f_Many_spread fd_Many_spread) (F : Fun K "spread" "Pick.spread" s_Pick_spread f fd)
    (W_Num_spread : MethF K C_Num "spread" f_Num_spread fd_Num_spread ["self", "path", "unit", "offset", "holds"]) (W_Nested_spread : MethF K C_Nested "spread" f_Nested_spread fd_Nested_spread ["self", "path", "unit", "offset", "holds"]) (W_Many_spread : MethF K C_Many "spread" f_Many_spread fd_Many_spread ["self", "path", "unit", "offset", "holds"]) (W_Pick_spread : MethF K C_Pick "spread" f fd ["self", "path", "unit", "offset", "holds"])
    (A_Num_width : NoAttr K C_Num "width") (A_Nested_shape : NoAttr K C_Nested "shape") (A_Many_count : NoAttr K C_Many "count") (A_Many_kind : NoAttr K C_Many "kind") (A_Pick_shapes : NoAttr K C_Pick "shapes") (A_Shape_name : NoAttr K C_Shape "name") (A_Shape_fields : NoAttr K C_Shape "fields") (z_range : mg "range" = none) (z_str : mg "str" = none) (z_enumerate : mg "enumerate" = none) (D_joined : Dn P w K mg base CX0 1 "joined" ["path", "step"] spJoined) (N_Num_size : Nn P w K mg base CX0 99 C_Num "size" ["self"] (spKS ⟨C_Num, C_Nested, C_Many, C_Pick, C_Shape⟩ 24 isNumK)) (N_Nested_size : Nn P w K mg base CX0 99 C_Nested "size" ["self"] (spKS ⟨C_Num, C_Nested, C_Many, C_Pick, C_Shape⟩ 24 isShpK)) (N_Many_size : Nn P w K mg base CX0 99 C_Many "size" ["self"] (spKS ⟨C_Num, C_Nested, C_Many, C_Pick, C_Shape⟩ 24 isRowK)) (N_Pick_size : Nn P w K mg base CX0 99 C_Pick "size" ["self"] (spKS ⟨C_Num, C_Nested, C_Many, C_Pick, C_Shape⟩ 24 isPickK)) (M_Nested : Mn P w K mg base CX0 1 C_Nested "Nested" ["self", "shape"] (spNestedI C_Nested)) (K_Shape : Cls K C_Shape) : FnOk P w K mg base CX0 124 f fd ["self", "path", "unit", "offset", "holds"] (spKSp K ⟨C_Num, C_Nested, C_Many, C_Pick, C_Shape⟩ 24 isPickK) := by
  exact (spread_all F_Num_spread F_Nested_spread F_Many_spread F W_Num_spread W_Nested_spread W_Many_spread W_Pick_spread A_Num_width A_Nested_shape A_Many_count A_Many_kind A_Pick_shapes A_Shape_name A_Shape_fields z_range z_str z_enumerate D_joined N_Num_size N_Nested_size N_Many_size N_Pick_size M_Nested K_Shape 24).2.2.2
end
def spSL (K : PySem.W.Frag) (C : KC) : Sp := fun vs H Q _ => ∃ (s : Addr) (i : Nat) (T : Tb) (ss : List Addr), vs = [.ref s] ∧ ss[i]? = some s ∧ TA C ss H T ∧ Rk T 24 (.shp i) ∧ (insideK T 24 (.shp i)).length ≤ 100000 ∧ (∀ i, i < T.length → nameT T i ≠ []) ∧ ∀ l H1, H l = none → Same H H1 → LeL K H1 l (leavesK T 24 (.shp i) []) → Q (.ref l) H1
section
variable {P : Program} {w : World} {K : PySem.W.Frag} {mg : Str → Option Value} {base : Heap}
theorem ok_shapeLeaves {f C_Num C_Nested C_Many C_Pick C_Shape : Addr} {fd : FuncData} (F : Fun K "leaves" "Shape.leaves" s_Shape_leaves f fd) (M_Nested : Mn P w K mg base CX0 1 C_Nested "Nested" ["self", "shape"] (spNestedI C_Nested)) (N_Nested_spread : Nn P w K mg base CX0 124 C_Nested "spread" ["self", "path", "unit", "offset", "holds"] (spKSp K ⟨C_Num, C_Nested, C_Many, C_Pick, C_Shape⟩ 24 isShpK)) : FnOk P w K mg base CX0 125 f fd ["self"] (spSL K ⟨C_Num, C_Nested, C_Many, C_Pick, C_Shape⟩) := by
  refine F.ok sc_Shape_leaves (fun vs H Q E h => ?_) (fun cdv A outer s H vs Q E hr h => ?_)
  · obtain ⟨s, i, T, ss, rfl, _⟩ := h
    rfl
  · obtain ⟨s, i, T, ss, rfl, hs, ht, hrk, hc, hN, q⟩ := h
    refine ⟨_, (pss_one (ps_ret (pe_md (pe_mk M_Nested (hr.mono (by first | decide | omega)) (by rfl) pass0 (pa_cons (pv 0) pa_nil)) N_Nested_spread (hr.mono (by first | decide | omega)) pass0 (pa_cons pe_str (pa_cons pe_str (pa_cons pe_int (pa_cons (pe_tup pa_nil) pa_nil))))))), ?_⟩
    walk_at "rd"
    refine Made.intro fun a dx H1 na s1 h1 => ⟨a, dx, _, rfl, h1, fun H2 o2 h2 => ⟨rfl, _, _, h2, lkno1 (by decide +kernel), ?_⟩⟩
    have s12 := Same.off s1 na o2
    have e := spread_leaves hN (p := []) (o := 0) hrk (.inr rfl)
    refine ⟨by decide, New.intro fun b H3 n3 s3 g3 => ?_⟩
    have s13 := s12.trans s3
    refine ⟨a, .shp i, T, ss, [], [], 0, b, [], by rw [e_nix], ⟨dx, s, hs, s3 _ _ h2⟩, ht.same s13, hrk, rfl, by decide, by decide, by decide, ⟨[], seqT_of g3, .nil⟩, by decide, ?_, hN, fun l H4 n4 s4 u4 => q l H4 (s13.free n4) (s13.trans s4) (e ▸ u4)⟩
    rw [e]
    exact Nat.le_trans leaves_len hc
end

end K10

set_option Elab.async false
set_option linter.all false
set_option pp.deepTerms true
set_option pp.maxSteps 100000
set_option format.indent 1
set_option format.width 260
set_option maxRecDepth 100000
set_option maxHeartbeats 4000000
set_option exponentiation.threshold 2000
namespace K10
open PySem PySem.Spec PyProof.Rows L2 Rb Rx SX Tx Rg Rt Rs Ru Rv Rw Ry Rz Rq
local macro_rules | `(tactic| walk_at "rd") => `(tactic| simp only [L2.start, tLock, iKeys, tLenSetN, rEqT0, rNeT0, rCntB, wMix, rRepr, rIsX, rIsXT, gSlAll, rEqS, rNeL, rNeV, rEqT, rNeT, rMulS, rEqL, rNotInT, rMax, tMethV, tListVals, tDGet, iEnum, tDIn, tDNotIn, sDPut, cxOf, tSeq, tAsg, tIfS, tTest, tB, tOp, tUn, tVar, tC, tCB, tCons, tNil, tRet, tRetN, tNext, tDrop, tBM, tBM0, tLst_n, tTup_n, tAnd, tOr, tNot, tAndV, tOrV, tNotV, tIf, tChain, tCall, gName, gTup, gCons, gNil, gUnl, gSub, rI, rI0, rU, rIxL, rIxT, rSlL_n, tSl, tPart, tNoPart, rCatR, rCatU, iEnumT, tOrT, iZipM, rAppend_n, rExtend_n, rPop_n, rClear_n, rSetL_n, rInsert, rRemI_n, tMake_n, sFld_n, tFld, tMeth, rIn, tFor_n, tLc_n, iRngL1, iRngL2, iList, iTup, iRev, iZip, rDivmod, rListOf, rTupOf, rLenSeq, rMin2, rMax2, rAll, rAny, rIsi, tNever, tYes, wipe, tAug, ipI, rEq, rNe, tIsN, tNotN, tDNewK_n, tRz, tCallS, tMethX, tMakeX, tXfA, wAs, wOnly, tVeI, tOst, gSlS, iRng3, rSum, rStrI, rIsB, rNotB, rSlT, rIndex, rRep_n, rInt1, tLenSetS, scal_ii, scal_bb, scal_ss, scal_nn, scal_ni, scal_in, scal_ns, scal_sn, scal_is, scal_si, List.map_cons, List.map_nil, List.length_cons, List.length_nil, List.replicate, List.nil_append, List.cons_append, List.append_nil, List.getElem?_cons_zero, List.getElem?_cons_succ, List.set_cons_zero, List.set_cons_succ, List.set_nil, Nat.reduceAdd, Nat.reduceSub, Option.some.injEq, V.int.injEq, V.ref.injEq, V.bl.injEq, V.str.injEq, V.ty.injEq, List.cons.injEq, and_assoc, and_true, true_and, exists_eq_left, exists_eq_left', exists_and_left, exists_and_right, exists_eq, exists_eq', exists_eq_right, exists_eq_right', if_true, if_false, Bool.false_eq_true, Bool.not_true, Bool.not_false, if_pos, Int.toNat_natCast, decide_eq_true_eq, Bool.not_eq_true', decide_eq_false_iff_not, reduceCtorEq, false_and, and_false, exists_false, exists_const, rIxS, C8.rSlX, rJoinS, rSplitS, tBMS, rIndexX, iStr, tDisp, tPairs])
local macro_rules | `(tactic| walk_at "ex") => `(tactic| repeat' (first | assumption | (with_reducible refine Exists.intro _ ?_) | (with_reducible refine And.intro ?_ ?_) | rfl))

/-! ### the law's own look -/
theorem three_at {K : PySem.W.Frag} {H : Hp} {b : Addr} {x y z : V} {i j k : Nat} {σ : L2.St} {R : L2.St → Hp → Prop} (h : SqT K H b [x, y, z]) (q : R (((σ.set i (some x)).set j (some y)).set k (some z)) H) : gTup K 3 (gCons (gName i) (gCons (gName j) (gCons (gName k) gNil))) (.ref b) σ H R :=
  ⟨b, [x, y, z], rfl, h, rfl, x, [y, z], rfl, y, [z], rfl, z, [], rfl, rfl, q⟩
def partB (a b : Lea) : Bool := a.h.any fun q => b.h.any fun q' => decide (q.1 = q'.1) && decide (q.2 ≠ q'.2)
def meetB (a b : Lea) : Bool := decide (a.u = b.u) && decide (a.o < b.o + b.w) && decide (b.o < a.o + a.w)
def spParted (K : PySem.W.Frag) : Sp := fun vs H Q _ => ∃ (x y : V) (a b : Lea), vs = [x, y] ∧ LeR K H x a ∧ LeR K H y b ∧ ∀ H1, Same H H1 → Q (.bl (partB a b)) H1
def spMeet (K : PySem.W.Frag) : Sp := fun vs H Q _ => ∃ (x y : V) (a b : Lea), vs = [x, y] ∧ LeR K H x a ∧ LeR K H y b ∧ ∀ H1, Same H H1 → Q (.bl (meetB a b)) H1
section
variable {P : Program} {w : World} {K : PySem.W.Frag} {mg : Str → Option Value} {base : Heap}
theorem ok_parted {f : Addr} {fd : FuncData} (F : Fun K "_law_parted" "_law_parted" s_law_parted f fd) : FnOk P w K mg base CX0 1 f fd ["_law_one", "_law_other"] (spParted K) := by
  refine F.ok sc_law_parted (fun vs H Q E h => ?_) (fun cdv A outer s H vs Q E hr h => ?_)
  · obtain ⟨x, y, a, b, rfl, _⟩ := h
    rfl
  · obtain ⟨x, y, a, b, rfl, hx, hy, q⟩ := h
    refine ⟨_, (pss_cons (ps_for PassesOwn.never rfl (pi_tupK (pe_ix (ix_tupK (K := K)) (pv 0) pe_int (fun _ _ => rfl)) (K := K)) (pg_tup rfl (pgs_cons (pg_name (i := 2) sc_law_parted.nd rfl (by first | exact Or.inl rfl | exact Or.inr rfl)) (pgs_cons (pg_name (i := 3) sc_law_parted.nd rfl (by first | exact Or.inl rfl | exact Or.inr rfl)) pgs_nil))) (pss_one (ps_for PassesOwn.never rfl (pi_tupK (pe_ix (ix_tupK (K := K)) (pv 1) pe_int (fun _ _ => rfl)) (K := K)) (pg_tup rfl (pgs_cons (pg_name (i := 4) sc_law_parted.nd rfl (by first | exact Or.inl rfl | exact Or.inr rfl)) (pgs_cons (pg_name (i := 5) sc_law_parted.nd rfl (by first | exact Or.inl rfl | exact Or.inr rfl)) pgs_nil))) (pss_one (ps_if (PW.pt (pw_and (pt_cmpR op_eq (pv 2) (pv 4) (nomark _)) (pw_and1 (pt_cmpR op_ne (pv 3) (pv 5) (nomark _))))) (pss_one (ps_ret pe_bl)) pss_nil)))))
      (pss_one (ps_ret pe_bl))), ?_⟩
    walk_at "rd"
    obtain ⟨a1, b1, rfl, ha, ys1, hb1, t1⟩ := hx
    obtain ⟨a2, b2, rfl, ha2, ys2, hb2, t2⟩ := hy
    refine ⟨a1, rfl, _, ha, _, atI_nat (j := 4) rfl, b1, rfl, ⟨_, hb1⟩, Loop.tup (xs := ys1) (fun i σ HA => ∃ y2 y3 y4 y5, σ = [some (.ref a1), some (.ref a2), y2, y3, y4, y5] ∧ Same H HA ∧ ∀ q ∈ a.h.take i, ∀ q' ∈ b.h, ¬ (q.1 = q'.1 ∧ q.2 ≠ q'.2)) ⟨_, _, _, _, rfl, Same.refl _, fun q hq => absurd hq (by simp)⟩ ?_ ?_ ?_⟩
    · rintro i σ HA _ ⟨y2, y3, y4, y5, rfl, sA, no⟩
      exact Same.seqT sA hb1
    · rintro i x σ HA hx ⟨y2, y3, y4, y5, rfl, sA, no⟩
      obtain ⟨c1, d1, hd1, rfl, hc1⟩ := t1.get hx
      rw [List.getElem?_map] at hd1
      obtain ⟨q1, hq1, rfl⟩ := Option.map_eq_some_iff.mp hd1
      refine two_atT (Same.seqT sA hc1) ?_
      walk_at "rd"
      refine ⟨_, Same.seqT sA ha2, _, atI_nat (j := 4) rfl, b2, rfl, ⟨_, Same.seqT sA hb2⟩, Loop.tup (xs := ys2) (fun j σ HB => ∃ y4 y5, σ = [some (.ref a1), some (.ref a2), some (.str (S q1.1)), some (.int q1.2), y4, y5] ∧ Same H HB ∧ ∀ q' ∈ b.h.take j, ¬ (q1.1 = q'.1 ∧ q1.2 ≠ q'.2)) ⟨_, _, rfl, sA, fun q hq => absurd hq (by simp)⟩ ?_ ?_ ?_⟩
      · rintro j σ HB _ ⟨y4, y5, rfl, sB, no2⟩
        exact Same.seqT sB hb2
      · rintro j x2 σ HB hx2 ⟨y4, y5, rfl, sB, no2⟩
        obtain ⟨c2, d2, hd2, rfl, hc2⟩ := t2.get hx2
        rw [List.getElem?_map] at hd2
        obtain ⟨q2, hq2, rfl⟩ := Option.map_eq_some_iff.mp hd2
        refine two_atT (Same.seqT sB hc2) ?_
        walk_at "rd"
        have next : ¬ (q1.1 = q2.1 ∧ q1.2 ≠ q2.2) → ∀ q' ∈ b.h.take (j + 1), ¬ (q1.1 = q'.1 ∧ q1.2 ≠ q'.2) := fun hn q' hq' => by
          rw [take_snoc hq2] at hq'
          rcases List.mem_append.mp hq' with hq' | hq'
          · exact no2 q' hq'
          · rw [List.mem_singleton.mp hq']
            exact hn
        by_cases e1 : q1.1 = q2.1
        · refine iteP (by rw [e1]) ?_
          by_cases e2 : q1.2 = q2.2
          · exact iteN (fun h => h e2) ⟨sB, next fun h => h.2 e2⟩
          · refine iteP e2 ?_
            have e : partB a b = true := by
              unfold partB
              rw [List.any_eq_true]
              refine ⟨q1, List.mem_of_getElem? hq1, List.any_eq_true.mpr ⟨q2, List.mem_of_getElem? hq2, ?_⟩⟩
              rw [decide_eq_true e1, decide_eq_true e2]
              rfl
            rw [← e]
            exact q HB sB
        · exact iteN (fun h => e1 (S_inj h)) ⟨sB, next fun h => e1 h.1⟩
      · rintro σ HB ⟨y4, y5, rfl, sB, no2⟩
        have l2 := Tups.len t2
        rw [List.length_map] at l2
        rw [l2, List.take_length] at no2
        walk_at "rd"
        refine ⟨sB, fun q hq => ?_⟩
        rw [take_snoc hq1] at hq
        rcases List.mem_append.mp hq with hq | hq
        · exact no q hq
        · rw [List.mem_singleton.mp hq]
          exact no2
    · rintro σ HA ⟨y2, y3, y4, y5, rfl, sA, no⟩
      have l1 := Tups.len t1
      rw [List.length_map] at l1
      rw [l1, List.take_length] at no
      walk_at "rd"
      have e : partB a b = false := by
        unfold partB
        rw [List.any_eq_false]
        intro q1 h1 e
        obtain ⟨q2, h2, e⟩ := List.any_eq_true.mp e
        rw [Bool.and_eq_true, decide_eq_true_eq, decide_eq_true_eq] at e
        exact no q1 h1 q2 h2 e
      rw [← e]
      exact q HA sA
theorem ok_meet {f : Addr} {fd : FuncData} (F : Fun K "_law_meet" "_law_meet" s_law_meet f fd) : FnOk P w K mg base CX0 1 f fd ["_law_one", "_law_other"] (spMeet K) := by
  refine F.ok sc_law_meet (fun vs H Q E h => ?_) (fun cdv A outer s H vs Q E hr h => ?_)
  · obtain ⟨x, y, a, b, rfl, _⟩ := h
    rfl
  · obtain ⟨x, y, a, b, rfl, hx, hy, q⟩ := h
    refine ⟨_, (pss_one (ps_ret (pe_and (pe_cmpR op_eq (pe_ix (ix_tupK (K := K)) (pv 0) pe_int (fun _ _ => rfl)) (pe_ix (ix_tupK (K := K)) (pv 1) pe_int (fun _ _ => rfl)) (nomark _)) (pe_and (pe_cmpR op_lt (pe_ix (ix_tupK (K := K)) (pv 0) pe_int (fun _ _ => rfl)) (pe_op op_add (pe_ix (ix_tupK (K := K)) (pv 1) pe_int (fun _ _ => rfl)) (pe_ix (ix_tupK (K := K)) (pv 1) pe_int (fun _ _ => rfl))) (nomark _)) (pe_one (pe_cmpR op_lt (pe_ix (ix_tupK (K := K)) (pv 1) pe_int (fun _ _ => rfl)) (pe_op op_add (pe_ix (ix_tupK (K := K)) (pv 0) pe_int (fun _ _ => rfl)) (pe_ix (ix_tupK (K := K)) (pv 0) pe_int (fun _ _ => rfl))) (nomark _))))))), ?_⟩
    walk_at "rd"
    obtain ⟨a1, b1, rfl, ha, _⟩ := hx
    obtain ⟨a2, b2, rfl, hb, _⟩ := hy
    have t := q H (Same.refl H)
    unfold meetB at t
    refine ⟨a1, rfl, _, ha, _, atI_nat (j := 2) rfl, a2, rfl, _, hb, _, atI_nat (j := 2) rfl, rfl, ?_⟩
    by_cases e : a.u = b.u
    · refine iteP (by rw [e]) ⟨a1, rfl, _, ha, _, atI_nat (j := 3) rfl, a2, rfl, _, hb, _, atI_nat (j := 3) rfl, a2, rfl, _, hb, _, atI_nat (j := 1) rfl, _, rfl, _, rfl, _, rfl, ?_⟩
      by_cases e2 : a.o < b.o + b.w
      · refine iteP e2 ⟨a2, rfl, _, hb, _, atI_nat (j := 3) rfl, a1, rfl, _, ha, _, atI_nat (j := 3) rfl, a1, rfl, _, ha, _, atI_nat (j := 1) rfl, _, rfl, _, rfl, _, rfl, ?_⟩
        rw [decide_eq_true e, decide_eq_true e2] at t
        exact t
      · refine iteN e2 ?_
        rw [decide_eq_false e2, Bool.and_false, Bool.false_and] at t
        exact t
    · refine iteN (fun h => e (S_inj (V.str.inj h))) ?_
      rw [decide_eq_false e, Bool.false_and, Bool.false_and] at t
      exact t
end
theorem keep_dk {K : PySem.W.Frag} {D : Addr} {kvs : List (Key × V)} {H H1 : Hp} (f : Off D H H1) (hD : H D = some (.dK kvs)) : KeepT K H H1 := fun _ _ h => by
  rcases h with (h | ⟨o, h⟩) | h
  · exact .inl (.inl (f.at h hD (by intro z; cases z)))
  · exact .inl (.inr ⟨o, f.at h hD (by intro z; cases z)⟩)
  · exact .inr h
def UD (H : Hp) : List (Key × V) → List Un → Prop := Paired fun kv u => kv.1 = Sum.inr (SX.S u.1) ∧ ∃ b, kv.2 = .ref b ∧ H b = some (.tup [.int u.2.1, .str (SX.S u.2.2)])
theorem ud_none {H : Hp} {p : List Nat} : ∀ {kvs : List (Key × V)} {us : List Un}, UD H kvs us → p ∉ us.map (fun u => u.1) → valV kvs (Sum.inr (SX.S p)) = none
  | _, _, .nil, _ => rfl
  | (k, v) :: r, u :: us, .cons ⟨h1, _⟩ t, hn => by
    have h1 : k = Sum.inr (SX.S u.1) := h1
    rw [List.map_cons, List.mem_cons, not_or] at hn
    rw [valV_neg (fun (e : k = Sum.inr (SX.S p)) => hn.1 (S_inj (Sum.inr.inj (h1.symm.trans e))).symm)]
    exact ud_none t hn.2
theorem ud_get {H : Hp} {u0 : Un} : ∀ {kvs : List (Key × V)} {us : List Un}, UD H kvs us → (us.map (fun u => u.1)).Nodup → u0 ∈ us → ∃ b, valV kvs (Sum.inr (SX.S u0.1)) = some (.ref b) ∧ H b = some (.tup [.int u0.2.1, .str (SX.S u0.2.2)])
  | _, _, .nil, _, h => absurd h List.not_mem_nil
  | (k, v) :: r, u :: us, .cons ⟨h1, b, h2, h3⟩ t, nd, hm => by
    have h1 : k = Sum.inr (SX.S u.1) := h1
    have h2 : v = .ref b := h2
    rw [List.map_cons, List.nodup_cons] at nd
    rcases List.mem_cons.mp hm with rfl | hm
    · exact ⟨b, by rw [valV_pos (p := (k, v)) h1, h2], h3⟩
    · rw [valV_neg (fun (e : k = Sum.inr (SX.S u0.1)) => nd.1 (by
        rw [S_inj (Sum.inr.inj (h1.symm.trans e))]
        exact List.mem_map.mpr ⟨u0, hm, rfl⟩))]
      exact ud_get t nd.2 hm
theorem UD.keep {H H1 : Hp} {kvs : List (Key × V)} {us : List Un} (t : UD H kvs us) (k : ∀ a ts, H a = some (.tup ts) → H1 a = some (.tup ts)) : UD H1 kvs us := Paired.mapP t fun _ _ ⟨h1, b, h2, h3⟩ => ⟨h1, b, h2, k _ _ h3⟩
def spRight (K : PySem.W.Frag) (C : KC) : Sp := fun vs H Q _ => ∃ (s : Addr) (i : Nat) (T : Tb) (ss : List Addr), vs = [.ref s] ∧ ss[i]? = some s ∧ TA C ss H T ∧ TabOk T ∧ T.length ≤ 4 ∧ i < T.length ∧ ∀ H1, Same H H1 → Q (.bl true) H1
def spLaw (K : PySem.W.Frag) : Sp := fun vs H Q _ => ∃ (a : Addr) (ns : List Int), vs = [.ref a] ∧ SqL K H a (ns.map V.int) ∧ ns.length ≤ 63 ∧ ∀ H', Q (.bl true) H'
section
variable {P : Program} {w : World} {K : PySem.W.Frag} {mg : Str → Option Value} {base : Heap}
theorem ok_right {f C_Num C_Nested C_Many C_Pick C_Shape : Addr} {fd : FuncData} (F : Fun K "_law_right" "_law_right" s_law_right f fd) (z_len : mg "len" = none) (z_set : mg "set" = none) (z_enumerate : mg "enumerate" = none) (N_Shape_units : Nn P w K mg base CX0 125 C_Shape "units" ["self"] (spSU K ⟨C_Num, C_Nested, C_Many, C_Pick, C_Shape⟩)) (N_Shape_leaves : Nn P w K mg base CX0 125 C_Shape "leaves" ["self"] (spSL K ⟨C_Num, C_Nested, C_Many, C_Pick, C_Shape⟩)) (D_law_meet : Dn P w K mg base CX0 1 "_law_meet" ["_law_one", "_law_other"] (spMeet K)) (D_law_parted : Dn P w K mg base CX0 1 "_law_parted" ["_law_one", "_law_other"] (spParted K)) : FnOk P w K mg base CX0 126 f fd ["_law_shape"] (spRight K ⟨C_Num, C_Nested, C_Many, C_Pick, C_Shape⟩) := by
  refine F.ok sc_law_right (fun vs H Q E h => ?_) (fun cdv A outer s H vs Q E hr h => ?_)
  · obtain ⟨s, i, T, ss, rfl, _⟩ := h
    rfl
  · obtain ⟨s', i, T, ss, rfl, hs, ta, ok, h4, hi, q⟩ := h
    refine ⟨_, (pss_cons (ps_set (i := 1) sc_law_right.nd rfl (by first | exact Or.inl rfl | exact Or.inr rfl) pe_dnewK)
      (pss_cons (ps_for PassesOwn.never rfl (pi_listK (pe_md0 (pv 0) N_Shape_units (hr.mono (by first | decide | omega)) pass0) (K := K)) (pg_tup rfl (pgs_cons (pg_name (i := 2) sc_law_right.nd rfl (by first | exact Or.inl rfl | exact Or.inr rfl)) (pgs_cons (pg_name (i := 3) sc_law_right.nd rfl (by first | exact Or.inl rfl | exact Or.inr rfl)) (pgs_cons (pg_name (i := 4) sc_law_right.nd rfl (by first | exact Or.inl rfl | exact Or.inr rfl)) pgs_nil)))) (pss_one (ps_dput (hu_of hr) (pv 1) (pv 2) (pe_tup (pa_cons (pv 3) (pa_cons (pv 4) pa_nil))) rfl)))
      (pss_cons (ps_set (i := 5) sc_law_right.nd rfl (by first | exact Or.inl rfl | exact Or.inr rfl) (pe_md0 (pv 0) N_Shape_leaves (hr.mono (by first | decide | omega)) pass0))
      (pss_cons (ps_for PassesOwn.never rfl (pi_enumK (by rfl) z_enumerate (pa_cons (pv 5) pa_nil) (K := K)) (pg_tup rfl (pgs_cons (pg_name (i := 6) sc_law_right.nd rfl (by first | exact Or.inl rfl | exact Or.inr rfl)) (pgs_cons (pg_name (i := 7) sc_law_right.nd rfl (by first | exact Or.inl rfl | exact Or.inr rfl)) pgs_nil))) (pss_cons (ps_if (pt_cmp (pc_dnotin (hu_of hr) (pe_ix (ix_tupK (K := K)) (pv 7) pe_int (fun _ _ => rfl)) (pv 1)) (by rfl)) (pss_one (ps_ret pe_bl)) pss_nil)
      (pss_cons (ps_asg (pe_dget (hu_of hr) (pv 1) (pe_ix (ix_tupK (K := K)) (pv 7) pe_int (fun _ _ => rfl)) (fun _ _ => rfl)) (pg_tup rfl (pgs_cons (pg_name (i := 3) sc_law_right.nd rfl (by first | exact Or.inl rfl | exact Or.inr rfl)) (pgs_cons (pg_name (i := 4) sc_law_right.nd rfl (by first | exact Or.inl rfl | exact Or.inr rfl)) pgs_nil))))
      (pss_cons (ps_if (PW.pt (pw_or (pt_cmpR op_lt (pe_ix (ix_tupK (K := K)) (pv 7) pe_int (fun _ _ => rfl)) pe_int (nomark _)) (pw_or (pt_cmpR op_gt (pe_op op_add (pe_ix (ix_tupK (K := K)) (pv 7) pe_int (fun _ _ => rfl)) (pe_ix (ix_tupK (K := K)) (pv 7) pe_int (fun _ _ => rfl))) (pv 3) (nomark _)) (pw_or1 (pt_cmpR op_eq (pv 4) pe_str (nomark _)))))) (pss_one (ps_ret pe_bl)) pss_nil)
      (pss_cons (ps_if (PW.pt (pw_and (pt_cmpR op_eq (pv 4) pe_str (nomark _)) (pw_and1 (PW.pt (pw_or (pt_cmpR op_ne (pe_ix (ix_tupK (K := K)) (pv 7) pe_int (fun _ _ => rfl)) (pe_ix (ix_tupK (K := K)) (pv 7) pe_int (fun _ _ => rfl)) (nomark _)) (pw_or (pt_cmpR op_ne (pe_ix (ix_tupK (K := K)) (pv 7) pe_int (fun _ _ => rfl)) (pv 3) (nomark _)) (pw_or1 (pt_cmpR (op_neT0 hr.units (K := K)) (pe_ix (ix_tupK (K := K)) (pv 7) pe_int (fun _ _ => rfl)) (pe_tup pa_nil) (nomark _))))))))) (pss_one (ps_ret pe_bl)) pss_nil)
      (pss_cons (ps_if (PW.pt (pw_and (pt_cmpR op_eq (pv 4) pe_str (nomark _)) (pw_and1 (PW.pt (pw_or (pt_cmpR (op_eqT0 hr.units (K := K)) (pe_ix (ix_tupK (K := K)) (pv 7) pe_int (fun _ _ => rfl)) (pe_tup pa_nil) (nomark _)) (pw_or1 (pt_cmpR op_ne (pe_ix (ix_tupK (K := K)) (pe_ix (ix_tupK (K := K)) (pe_ix (ix_tupK (K := K)) (pv 7) pe_int (fun _ _ => rfl)) pe_int (fun _ _ => rfl)) pe_int (fun _ _ => rfl)) (pe_ix (ix_tupK (K := K)) (pv 7) pe_int (fun _ _ => rfl)) (nomark _)))))))) (pss_one (ps_ret pe_bl)) pss_nil)
      (pss_one (ps_for PassesOwn.never rfl (pi_listK (pe_slice (sl_listK (K := K)) (pv 5) po_none (po_some (pv 6))) (K := K)) (pg_name (i := 8) sc_law_right.nd rfl (by first | exact Or.inl rfl | exact Or.inr rfl)) (pss_one (ps_if (PW.pt (pw_and (pt_val (pe_cd D_law_meet (hr.mono (by first | decide | omega)) (by rfl) pass0 (pa_cons (pv 7) (pa_cons (pv 8) pa_nil)))) (pw_and1 (pt_not (pt_val (pe_cd D_law_parted (hr.mono (by first | decide | omega)) (by rfl) pass0 (pa_cons (pv 7) (pa_cons (pv 8) pa_nil)))))))) (pss_one (ps_ret pe_bl)) pss_nil))))))))))
      (pss_cons (ps_set (i := 9) sc_law_right.nd rfl (by first | exact Or.inl rfl | exact Or.inr rfl) (pe_lc (own := [("_law_leaf", 7)]) (g := gName 7) (tt := tYes) rfl sc_law_right.nd (pi_listK (pv 5) (K := K)) (blkOk_by (own := [("_law_leaf", 7)]) (N := ["_law_shape", "_law_units_here", "_law_path", "_law_width", "_law_sort", "_law_leaves", "_law_at", "_law_leaf", "_law_other", "_law_paths", "_law_nums"]) (sc := defScope s_law_right) (by decide +kernel)) (fun _ _ _ _ _ => pg_name (i := 7) sc_law_right.nd rfl (Or.inl rfl)) (fun _ _ _ _ _ => pts_nil) (fun _ _ _ _ _ => (pe_ix (ix_tupK (K := K)) (pv 7) pe_int (fun _ _ => rfl)))))
      (pss_cons (ps_lock (ps_setLc (i := 10) (own := [("_law_path", 2)]) (g := gName 2) rfl sc_law_right.nd rfl rfl (sw_true rfl rfl rfl (by decide +kernel)) (pi_keys (pv 1)) (blkOk_by (own := [("_law_path", 2)]) (N := ["_law_shape", "_law_units_here", "_law_path", "_law_width", "_law_sort", "_law_leaves", "_law_at", "_law_leaf", "_law_other", "_law_paths", "_law_nums"]) (sc := defScope s_law_right) (by decide +kernel)) (fun _ _ _ _ _ => pg_name (i := 2) sc_law_right.nd rfl (Or.inl rfl)) (fun _ _ _ _ _ => (pts_one (pt_cmpR op_eq (pe_ix (ix_tupK (K := K)) (pe_dget (hu_of hr) (pv 1) (pv 2) (fun _ _ => rfl)) pe_int (fun _ _ => rfl)) pe_str (nomark _)))) (fun _ _ _ _ _ => (pv 2))))
      (pss_one (ps_ret (pe_and (pe_cmpR op_eq (pe_lenSetN (K := K) (by rfl) (by rfl) z_len (by rfl) z_set (pv 9)) (pe_callB (call_lenR (K := K)) (by rfl) z_len (by decide +kernel) (pa_cons (pv 9) pa_nil)) (nomark _)) (pe_one (pe_cmpR (op_eqL hr.units (K := K)) (pe_lc (own := [("_law_path", 2)]) (g := gName 2) rfl sc_law_right.nd (pi_listK (pv 10) (K := K)) (blkOk_by (own := [("_law_path", 2)]) (N := ["_law_shape", "_law_units_here", "_law_path", "_law_width", "_law_sort", "_law_leaves", "_law_at", "_law_leaf", "_law_other", "_law_paths", "_law_nums"]) (sc := defScope s_law_right) (by decide +kernel)) (fun _ _ _ _ _ => pg_name (i := 2) sc_law_right.nd rfl (Or.inl rfl)) (fun _ _ _ _ _ => (pts_one (pt_cmpR (op_notIn_seqK (K := K)) (pv 2) (pv 9) (by rfl)))) (fun _ _ _ _ _ => (pv 2))) (pe_lst pa_nil) (nomark _)))))))))))), ?_⟩
    walk_at "rd"
    have w := ok.wf
    have rk := wf_24 w hi
    have hcnt := tab_cnt ok hi
    have few := ins_few24 ok h4 hi
    have law := law_holds ok hi
    have hN : ∀ i, i < T.length → nameT T i ≠ [] := fun i hi => by
      have e := List.getElem?_eq_getElem hi
      rw [name_at e]
      have := isName_len (w.2 i _ e).name
      intro z
      rw [z] at this
      exact absurd this.1 (by decide)
    have ulen := units_count (T := T) (n := 24) (k := .shp i) (p := [])
    obtain ⟨dx2, t2, ys2, g1, _, _, _⟩ := ta.shape hs
    refine New.intro fun dd H1 n1 s1 g1' => ⟨_, _, s1 _ _ g1, lkno (by decide +kernel) (by decide +kernel), s', i, T, ss, rfl, hs, ta.same s1, rk, by omega, fun ul H2 n2 s2 uA => ?_⟩
    obtain ⟨xu, gu, tu⟩ := id uA
    have ulx := UnL.len gu uA
    have lfew := Nat.le_trans (leaves_len (T := T) (n := 24) (k := .shp i) (p := [])) few
    obtain ⟨L, eL⟩ : ∃ L, L = leavesK T 24 (.shp i) [] := ⟨_, rfl⟩
    obtain ⟨Us, eU⟩ : ∃ Us, Us = unitsK T 24 (.shp i) [] := ⟨_, rfl⟩
    rw [← eL] at law lfew
    rw [← eU] at law tu ulen ulx
    have s02 := s1.trans s2
    refine ⟨ul, rfl, ⟨_, seq_of gu⟩, Loop.list (xs := xu) (fun j σ HA => ∃ y2 y3 y4 y5 y6 y7 y8 y9 y10 kvs, σ = [some (.ref s'), some (.ref dd), y2, y3, y4, y5, y6, y7, y8, y9, y10] ∧ Off dd H2 HA ∧ HA dd = some (.dK kvs) ∧ UD HA kvs (Us.take j)) ⟨_, _, _, _, _, _, _, _, _, _, rfl, Off.refl _, s2 _ _ g1', .nil⟩ ?_ ?_ ?_⟩
    · rintro j σ HA _ ⟨y2, y3, y4, y5, y6, y7, y8, y9, y10, kvs, rfl, oA, gA, ud⟩
      exact seq_of (oA _ _ (fun e => by rw [e, s2 _ _ g1'] at gu; cases gu) gu)
    · rintro j x σ HA hx ⟨y2, y3, y4, y5, y6, y7, y8, y9, y10, kvs, rfl, oA, gA, ud⟩
      obtain ⟨b, d, hd, rfl, hb⟩ := tu.get hx
      rw [List.getElem?_map] at hd
      obtain ⟨u, hu, rfl⟩ := Option.map_eq_some_iff.mp hd
      refine three_at (keep_dk oA (s2 _ _ g1') _ _ hb) ?_
      walk_at "rd"
      have hju := (List.getElem?_eq_some_iff.mp hu).1
      have kl := Paired.length ud
      rw [List.length_take] at kl
      refine ⟨by decide, New.intro fun p3 HB n3 s3 g3 => ⟨_, DPut.k (k := Sum.inr (S u.1)) (s3 _ _ gA) (by rw [sizeLine_eq]; omega), ?_⟩⟩
      have hnew : u.1 ∉ (Us.take j).map fun u => u.1 := fun hm => by
        have := law.keys
        rw [← List.take_append_drop j Us, List.map_append, List.nodup_append] at this
        refine this.2.2 _ hm u.1 ?_ rfl
        rw [drop_at hu]
        exact List.mem_cons_self
      have hn := ud_none ud hnew
      obtain ⟨HC, eC⟩ : ∃ HC, HC = upd HB dd (.dK (putK kvs (Sum.inr (S u.1)) (.ref p3))) := ⟨_, rfl⟩
      have oC : Off dd HB HC := eC ▸ Off.upd
      have hC : HC dd = some (.dK (kvs ++ [(Sum.inr (S u.1), .ref p3)])) := by
        rw [eC, upd_same, putK_new _ hn]
      rw [← eC]
      have oAC : Off dd HA HC := (Off.of s3).trans oC
      refine ⟨oA.trans oAC, _, hC, ?_⟩
      rw [take_snoc hu]
      have nd3 : p3 ≠ dd := fun e => by
        rw [e, gA] at n3
        cases n3
      exact psnoc (ud.keep fun a ts h => oAC _ _ (fun e => by rw [e, gA] at h; cases h) h) ⟨rfl, p3, rfl, oC _ _ nd3 g3⟩
    · rintro σ HA ⟨y2, y3, y4, y5, y6, y7, y8, y9, y10, kvs, rfl, oA, gA, ud⟩
      walk_at "rd"
      rw [ulx, List.take_length] at ud
      have s2A : Same H HA := Same.off s02 n1 oA
      refine ⟨_, _, s2A _ _ g1, lkno (by decide +kernel) (by decide +kernel), s', i, T, ss, rfl, hs, ta.same s2A, rk, by omega, hN, fun ll H4 n4 s4 lA => ?_⟩
      rw [← eL] at lA
      obtain ⟨xl, gl, tl⟩ := lA
      have llx := Paired.length tl
      have s24 : Same H H4 := s2A.trans s4
      have gA4 := s4 _ _ gA
      have ud4 := ud.keep fun a ts h => s4 _ _ h
      have two := List.pairwise_iff_getElem.mp law.two
      refine ⟨ll, rfl, ⟨_, seq_of gl⟩, Loop.enum (xs := xl) (fun j σ HB => ∃ y2 y3 y4 y6 y7 y8 y9 y10, σ = [some (.ref s'), some (.ref dd), y2, y3, y4, some (.ref ll), y6, y7, y8, y9, y10] ∧ Same H4 HB) ⟨_, _, _, _, _, _, _, _, rfl, Same.refl _⟩ ?_ ?_ ?_⟩
      · rintro j σ HB _ ⟨y2, y3, y4, y6, y7, y8, y9, y10, rfl, sB⟩
        exact seq_of (sB _ _ gl)
      · rintro j x σ HB u HC hx ⟨y2, y3, y4, y6, y7, y8, y9, y10, rfl, sB⟩ nu sC gu
        obtain ⟨r, hr, hle⟩ := pget tl hx
        obtain ⟨ra, rb, rfl, hra, ryl, hrb, htr⟩ := id hle
        have s4C := sB.trans sC
        have hra := Same.seqT s4C hra
        have hrb := Same.seqT s4C hrb
        refine two_at gu ?_
        obtain ⟨wd, srt, hmem, p1, p2, hcase⟩ := law.each r (List.mem_of_getElem? hr)
        obtain ⟨ub, hv, hub⟩ := ud_get ud4 law.keys hmem
        have dg : DGet HC dd (.str (S r.u)) (some (.ref ub)) := by
          have := DGet.k (k := Sum.inr (S r.u)) (s4C _ _ gA4)
          rw [hv] at this
          exact this
        walk_at "rd"
        have hub : HC ub = some (.tup [.int wd, .str (S srt)]) := s4C _ _ hub
        have no_tag : S numW ≠ Str.ofString "tag" ∧ S pickW' ≠ Str.ofString "tag" ∧ S numW ≠ Str.ofString "pick" ∧ S pickW' ≠ Str.ofString "num" := by decide +kernel
        rcases hcase with ⟨rfl, e1, e2, e3⟩ | ⟨rfl, c, hh, e3⟩
        case' inl =>
          have hnil : ryl = [] := List.eq_nil_of_length_eq_zero (by rw [Tups.len htr, e3]; rfl)
          refine ⟨_, hra, _, atI_nat (j := 2) rfl, _, dg, iteN (by simp) ⟨_, hra, _, atI_nat (j := 2) rfl, _, dg, ub, rfl, _, seqT_of hub, rfl, _, _, rfl, _, _, rfl, rfl, _, hra, _, atI_nat (j := 3) rfl, _, rfl, iteN (by omega) ⟨_, hra, _, atI_nat (j := 3) rfl, _, hra, _, atI_nat (j := 1) rfl, _, rfl, _, rfl, _, rfl, iteN (by omega) ⟨rfl, iteN (fun h => no_tag.1 (V.str.inj h)) ⟨rfl, iteP (by rw [e_num]) ?_⟩⟩⟩⟩⟩
          refine ⟨_, hra, _, atI_nat (j := 0) rfl, _, hra, _, atI_nat (j := 2) rfl, rfl, iteN (fun h => h (by rw [e1])) ⟨_, hra, _, atI_nat (j := 1) rfl, rfl, iteN (fun h => h (by rw [e2])) ⟨_, hra, _, atI_nat (j := 4) rfl, by decide, New.intro fun z HD nz sD gz => ⟨rb, rfl, ryl, Same.seqT sD hrb, seqT_of gz, iteN (fun h => h hnil) ⟨rfl, iteN (fun h => no_tag.2.2.1 (V.str.inj h)) ?_⟩⟩⟩⟩⟩
        case' inr =>
          rw [e3] at htr
          obtain ⟨y0, ryl', rfl⟩ : ∃ y0 r', ryl = y0 :: r' := by
            cases ryl with
            | nil => cases htr
            | cons a b => exact ⟨a, b, rfl⟩
          obtain ⟨pa, dpa, hdpa, rfl, hpa⟩ := htr.get (i := 0) (x := y0) rfl
          obtain rfl : dpa = [.str (S r.u), .int c] := (Option.some.inj hdpa).symm
          have hpa := Same.seqT s4C hpa
          refine ⟨_, hra, _, atI_nat (j := 2) rfl, _, dg, iteN (by simp) ⟨_, hra, _, atI_nat (j := 2) rfl, _, dg, ub, rfl, _, seqT_of hub, rfl, _, _, rfl, _, _, rfl, rfl, _, hra, _, atI_nat (j := 3) rfl, _, rfl, iteN (by omega) ⟨_, hra, _, atI_nat (j := 3) rfl, _, hra, _, atI_nat (j := 1) rfl, _, rfl, _, rfl, _, rfl, iteN (by omega) ⟨rfl, iteN (fun h => no_tag.2.1 (V.str.inj h)) ⟨rfl, iteN (fun h => no_tag.2.2.2 (V.str.inj h)) ⟨rfl, iteP (by rw [e_pick]) ?_⟩⟩⟩⟩⟩⟩
          refine ⟨_, hra, _, atI_nat (j := 4) rfl, by decide, New.intro fun z HD nz sD gz => ⟨rb, rfl, _, Same.seqT sD hrb, seqT_of gz, iteN (fun h => by cases h) ⟨_, Same.seqT sD hra, _, atI_nat (j := 4) rfl, rb, rfl, _, Same.seqT sD hrb, _, atI_nat (j := 0) rfl, pa, rfl, _, Same.seqT sD hpa, _, atI_nat (j := 0) rfl, _, Same.seqT sD hra, _, atI_nat (j := 2) rfl, rfl, iteN (fun h => h rfl) ?_⟩⟩⟩
        all_goals
          have sCD := s4C.trans sD
          refine ⟨_, seq_of (sCD _ _ gl), New.intro fun pc HE nE sE gE => ?_⟩
          rw [cut_to] at gE
          refine ⟨⟨_, seq_of gE⟩, Loop.list (xs := xl.take j) (fun k σ HF => ∃ y3 y4 y8, σ = [some (.ref s'), some (.ref dd), y2, y3, y4, some (.ref ll), some (.int (j : Int)), some (.ref ra), y8, y9, y10] ∧ Same HE HF) ⟨_, _, _, rfl, Same.refl _⟩ ?_ ?_ ?_⟩
          · rintro k σ HF _ ⟨y3', y4', y8', rfl, sF⟩
            exact seq_of (sF _ _ gE)
          · rintro k x2 σ HF hx2 ⟨y3', y4', y8', rfl, sF⟩
            rw [List.getElem?_take] at hx2
            split at hx2
            · rename_i hkj
              obtain ⟨r2, hr2, hle2⟩ := pget tl hx2
              have s4F : Same H4 HF := sCD.trans (sE.trans sF)
              have lr := hle.keep (.same s4F)
              have lr2 := hle2.keep (.same s4F)
              walk_at "rd"
              refine ⟨_, _, r, r2, rfl, lr, lr2, fun HG sG => ⟨_, rfl, ?_⟩⟩
              by_cases m : meetB r r2 = true
              · refine iteP m ⟨_, _, r, r2, rfl, lr.keep (.same sG), lr2.keep (.same sG), fun HI sI => ⟨_, rfl, iteN ?_ (sF.trans (sG.trans sI))⟩⟩
                obtain ⟨hjl, ejl⟩ := List.getElem?_eq_some_iff.mp hr
                obtain ⟨hkl, ekl⟩ := List.getElem?_eq_some_iff.mp hr2
                have t := two k j hkl hjl hkj
                rw [ejl, ekl] at t
                unfold meetB at m
                rw [Bool.and_eq_true, Bool.and_eq_true, decide_eq_true_eq, decide_eq_true_eq, decide_eq_true_eq] at m
                obtain ⟨qa, hqa, qb, hqb, w1, w2⟩ := t ⟨m.1.1, m.1.2, m.2⟩
                have : partB r r2 = true := by
                  unfold partB
                  rw [List.any_eq_true]
                  refine ⟨qa, hqa, List.any_eq_true.mpr ⟨qb, hqb, ?_⟩⟩
                  rw [decide_eq_true w1, decide_eq_true w2]
                  rfl
                rw [this]
                decide
              · exact iteN m (sF.trans sG)
            · cases hx2
          · rintro σ HF ⟨y3', y4', y8', rfl, sF⟩
            have s4F : Same H4 HF := sCD.trans (sE.trans sF)
            first | exact ⟨_, _, _, _, _, _, _, _, rfl, s4F⟩ | (walk_at "rd"; exact s4F)
      · rintro σ HB ⟨y2, y3, y4, y6, y7, y8, y9, y10, rfl, sB⟩
        walk_at "rd"
        have glB := sB _ _ gl
        have gAB := sB _ _ gA4
        refine ⟨⟨_, seq_of glB⟩, Cmp.pureD L (fun r => V.str (S r.p)) (seq_of glB) llx (by omega) (fun k x r HC R hx hr sC rr => ?_) (fun pl HC nC sC gC => ?_)⟩
        · obtain ⟨r', hr', ra, rb, rfl, hra, _⟩ := pget tl hx
          rw [hr] at hr'
          cases hr'
          refine ⟨rfl, ?_⟩
          walk_at "rd"
          exact ⟨_, Same.seqT (sB.trans sC) hra, _, atI_nat (j := 0) rfl, rr HC (Same.refl HC)⟩
        · have gAC := sC _ _ gAB
          have udC := ud4.keep fun a ts h => sC _ _ (sB _ _ h)
          have klen := Paired.length udC
          refine ⟨dd, .dK kvs, gAC, trivial, fun od => ⟨od, .inl ⟨kvs, upd_same, ?_⟩⟩⟩
          have same_lock : ∀ {HD : Hp}, Same (upd HC dd (.frz od (.dK kvs))) HD → Same HC (upd HD dd (.dK kvs)) := fun {HD} sD b u e => by
            by_cases hb : b = dd
            · subst hb
              rw [upd_same, ← gAC]
              exact e
            · rw [upd_ne hb]
              exact sD _ _ (by rw [upd_ne hb]; exact e)
          let isN : Key × V → Bool := fun kv => @decide (∃ u ∈ Us, kv.1 = Sum.inr (S u.1) ∧ u.2.2 = numW) (Classical.propDecidable _)
          refine Cmp.keysF isN (fun kv => kV kv.1) upd_same (by omega) (fun x => rfl) (fun kv HD R hkv sD rr => ?_) (fun kv HD R hkv _ sD rr => ?_) (fun nl HD nD sD gD => ?_)
          · obtain ⟨j, hj⟩ := List.mem_iff_getElem?.mp hkv
            obtain ⟨u, hu, hk, _⟩ := pget udC hj
            have hum := List.mem_of_getElem? hu
            obtain ⟨ub, hv, hub⟩ := ud_get udC law.keys hum
            have hdg : DGet HD dd (kV kv.1) (some (.ref ub)) := .inl ⟨kvs, kv.1, .inr ⟨od, sD _ _ upd_same⟩, rfl, by rw [hk, hv]⟩
            have hub2 : HD ub = some (.tup [.int u.2.1, .str (S u.2.2)]) := sD _ _ (by rw [upd_ne (fun e => by rw [e, gAC] at hub; cases hub)]; exact hub)
            walk_at "rd"
            refine ⟨_, hdg, ub, rfl, _, seqT_of hub2, _, atI_nat (j := 1) rfl, rfl, ?_⟩
            by_cases hn : u.2.2 = numW
            · rw [decide_eq_true (show V.str (S u.2.2) = V.str (Str.ofString "num") by rw [hn, e_num])]
              have e : isN kv = true := @decide_eq_true _ (Classical.propDecidable _) ⟨u, hum, hk, hn⟩
              rw [← e]
              exact rr HD (Same.refl HD)
            · rw [decide_eq_false (show ¬ V.str (S u.2.2) = V.str (Str.ofString "num") from fun e => hn (S_inj ((V.str.inj e).trans e_num)))]
              have e : isN kv = false := @decide_eq_false _ (Classical.propDecidable _) fun ⟨u', hu', hk', hn'⟩ => by
                have : u' = u := nodup_inj law.keys u' hu' u hum (S_inj (Sum.inr.inj (hk'.symm.trans hk)))
                exact hn (this ▸ hn')
              rw [← e]
              exact rr HD (Same.refl HD)
          · exact ⟨_, rfl, rr HD (Same.refl HD)⟩
          · have sHU := same_lock sD
            have nnl : nl ≠ dd := fun e => by
              rw [e, upd_same] at nD
              cases nD
            have gpl := sHU _ _ gC
            have gnl : upd HD dd (.dK kvs) nl = some (.lst ((kvs.filter isN).map fun kv => kV kv.1)) := by
              rw [upd_ne nnl]
              exact gD
            generalize upd HD dd (.dK kvs) = HU at sHU gpl gnl
            have nds : (L.map fun r => S r.p).Nodup := by
              have := law.paths
              rw [List.nodup_iff_pairwise_ne, List.pairwise_map] at this ⊢
              exact this.imp fun h e => h (S_inj e)
            have epl : (L.map fun r => V.str (S r.p)) = (L.map fun r => S r.p).map V.str := by rw [List.map_map]; rfl
            refine ⟨sD _ _ upd_same, pl, rfl, L.map fun r => S r.p, by rw [← epl]; exact seq_of gpl, nds, by rw [List.length_map]; omega, pl, rfl, _, .inl (seq_of gpl), iteP (by rw [List.length_map, List.length_map]) ⟨nl, rfl, ⟨_, seq_of gnl⟩, ?_⟩⟩
            have hin : ∀ kv ∈ kvs.filter isN, inV (kV kv.1) (L.map fun r => V.str (S r.p)) = true ∧ flatV (kV kv.1) = true := fun kv hkv => by
              obtain ⟨u, hu, hk, hn⟩ := @of_decide_eq_true _ (Classical.propDecidable _) (List.mem_filter.mp hkv).2
              obtain ⟨p, w, s⟩ := u
              have hn : s = numW := hn
              subst hn
              rw [hk]
              refine ⟨?_, rfl⟩
              obtain ⟨r, hr, e⟩ := List.mem_map.mp (law.nums p w hu)
              have e1 : (L.map fun r => V.str (S r.p)) = wds (L.map fun r => r.p) := by
                unfold wds
                rw [List.map_map]
                rfl
              rw [e1]
              show inV (.str (S p)) _ = true
              rw [inV_str, decide_eq_true (List.mem_map.mpr ⟨r, hr, e⟩)]
            refine Cmp.filtD (kvs.filter isN) (fun _ => false) (fun kv => kV kv.1) (seq_of gnl) (by rw [List.length_map]) (by rw [List.length_map]; exact Nat.le_trans (List.length_filter_le _ _) (by omega)) (fun k x kv HE Nx R hx hkv sE _ nn => ?_) (fun l5 HE nE sE gE => ?_)
            · rw [List.getElem?_map, hkv] at hx
              obtain rfl := (Option.some.inj hx).symm
              obtain ⟨i1, i2⟩ := hin kv (List.mem_of_getElem? hkv)
              refine ⟨rfl, ?_⟩
              walk_at "rd"
              refine ⟨_, .inl (seq_of (sE _ _ gpl)), i2, List.all_eq_true.mpr fun y hy => ?_, iteN (by rw [i1]; decide) (nn rfl HE (Same.refl HE))⟩
              obtain ⟨r, _, rfl⟩ := List.mem_map.mp hy
              rfl
            · have e5 : ((kvs.filter isN).filter fun _ => false) = [] := List.filter_eq_nil_iff.mpr fun _ _ => by decide
              rw [e5] at gE
              refine ⟨by decide, New.intro fun z HF nz sF gz => ⟨l5, rfl, _, seq_of (sF _ _ gE), _, seq_of gz, .inr ⟨rfl, rfl, ?_⟩⟩⟩
              exact q HF (s24.trans (sB.trans (sC.trans (sHU.trans (sE.trans sF)))))
theorem ok_law {f C_Num C_Nested C_Many C_Pick C_Shape C_Shapes : Addr} {fd : FuncData} (F : Fun K "law" "law" s_law f fd) (z_len : mg "len" = none) (z_max : mg "max" = none) (z_min : mg "min" = none) (z_range : mg "range" = none) (K_Shapes : Cls K C_Shapes) (A_Shapes_shapes : NoAttr K C_Shapes "shapes")
    (D_law_cell : Dn P w K mg base CX0 1 "_law_cell" ["_law_script", "_law_k"] (spCell K)) (D_law_box : Dn P w K mg base CX0 1 "_law_box" ["_law_cell_here"] spBegun) (D_law_shapes : Dn P w K mg base CX0 52 "_law_shapes" ["_law_box_here", "_law_most"] (spShapes K)) (D_law_text : Dn P w K mg base CX0 26 "_law_text" ["_law_shapes_here"] (spText K)) (D_law_right : Dn P w K mg base CX0 126 "_law_right" ["_law_shape"] (spRight K ⟨C_Num, C_Nested, C_Many, C_Pick, C_Shape⟩))
    (D_read_shapes : Dn P w K mg base CX0 127 "read_shapes" ["text"] (spRead ⟨C_Num, C_Nested, C_Many, C_Pick, C_Shape⟩ C_Shapes)) : FnOk P w K mg base CX0 128 f fd ["_law_script"] (spLaw K) := by
  refine F.ok sc_law (fun vs H Q E h => ?_) (fun cdv A outer s H vs Q E hr h => ?_)
  · obtain ⟨a, ns, rfl, _⟩ := h
    rfl
  · obtain ⟨a, ns, rfl, hS, hl, q⟩ := h
    refine ⟨_, (pss_cons (ps_for PassesOwn.never rfl (pi_rangeL1 (by rfl) z_range (pa_cons (pe_callB (call_max2R rfl) (by rfl) z_max (by decide +kernel) (pa_cons pe_int (pa_cons (pe_callB (call_min2R rfl) (by rfl) z_min (by decide +kernel) (pa_cons (pe_callB (call_lenR (K := K)) (by rfl) z_len (by decide +kernel) (pa_cons (pv 0) pa_nil)) (pa_cons pe_int pa_nil))) pa_nil))) pa_nil)) (pg_name (i := 1) sc_law.nd rfl (by first | exact Or.inl rfl | exact Or.inr rfl)) (pss_cons (ps_set (i := 2) sc_law.nd rfl (by first | exact Or.inl rfl | exact Or.inr rfl) (pe_cd D_read_shapes (hr.mono (by first | decide | omega)) (by rfl) pass0 (pa_cons (pe_cd D_law_text (hr.mono (by first | decide | omega)) (by rfl) pass0 (pa_cons (pe_cd D_law_shapes (hr.mono (by first | decide | omega)) (by rfl) pass0 (pa_cons (pe_cd D_law_box (hr.mono (by first | decide | omega)) (by rfl) pass0 (pa_cons (pe_cd D_law_cell (hr.mono (by first | decide | omega)) (by rfl) pass0 (pa_cons (pv 0) (pa_cons (pv 1) pa_nil))) pa_nil)) (pa_cons pe_int pa_nil))) pa_nil)) pa_nil)))
      (pss_one (ps_for PassesOwn.never rfl (pi_tupK (pe_fldK (pv 2) rfl (K := K)) (K := K)) (pg_name (i := 3) sc_law.nd rfl (by first | exact Or.inl rfl | exact Or.inr rfl)) (pss_one (ps_if (pt_not (pt_val (pe_cd D_law_right (hr.mono (by first | decide | omega)) (by rfl) pass0 (pa_cons (pv 3) pa_nil)))) (pss_one (ps_ret pe_bl)) pss_nil))))))
      (pss_one (ps_ret pe_bl))), ?_⟩
    walk_at "rd"
    refine ⟨_, .inl hS, Loop.range (fun i σ HA => ∃ y1 y2 y3, σ = [some (.ref a), y1, y2, y3] ∧ Same H HA) ⟨_, _, _, rfl, Same.refl _⟩ ?_ ?_⟩
    · rintro i σ HA hi ⟨y1, y2, y3, rfl, sA⟩
      walk_at "rd"
      have hi2 : i ≤ 1000 := by
        rw [List.length_map] at hi
        split at hi <;> split at hi <;> omega
      refine ⟨a, ns, _, rfl, sA.seq hS, by omega, by omega, hl, fun z => ⟨z, rfl, fun t H1 nt s1 d1 => ?_⟩⟩
      refine ⟨t, 4, rfl, d1, by decide, by decide, fun T l H2 ok ne hT nl o2 d2 tb => ?_⟩
      have sA2 : Same HA H2 := Same.off s1 nt o2
      obtain ⟨xs, gl, tbl⟩ := tb
      have tb0 : TblAt [] H2 l T := ⟨xs, gl, tbl.nil⟩
      have w := ok.wf
      refine ⟨l, T, rfl, tb0, wf_okT w ne, fun H3 s3 => ⟨T, rfl, ok, ne, by omega, fun p dx tt ss H4 s4 hp htt ta => ?_⟩⟩
      have hss := Paired.length ta
      try walk_at "rd"
      refine ⟨_, _, _, hp, K_Shapes, A_Shapes_shapes, _, lkp, tt, rfl, ⟨_, seqT_of htt⟩, Loop.tup (xs := ss.map V.ref) (fun j σ HB => ∃ y1 y3, σ = [some (.ref a), y1, some (.ref p), y3] ∧ Same H4 HB) ⟨_, _, rfl, Same.refl _⟩ ?_ ?_ ?_⟩
      · rintro j σ HB _ ⟨y1, y3, rfl, sB⟩
        exact seqT_of (sB _ _ htt)
      · rintro j x σ HB hx ⟨y1, y3, rfl, sB⟩
        rw [List.getElem?_map] at hx
        obtain ⟨s', hs', rfl⟩ := Option.map_eq_some_iff.mp hx
        have hj := (List.getElem?_eq_some_iff.mp hs').1
        walk_at "rd"
        exact ⟨s', j, T, ss, rfl, hs', ta.same sB, ok, by omega, by omega, fun HC sC => ⟨true, rfl, iteN (by decide) (sB.trans sC)⟩⟩
      · rintro σ HB ⟨y1, y3, rfl, sB⟩
        first | exact sA.trans (sA2.trans (s3.trans (s4.trans sB))) | (walk_at "rd"; exact sA.trans (sA2.trans (s3.trans (s4.trans sB))))
    · rintro σ HA ⟨y1, y2, y3, rfl, sA⟩
      walk_at "rd"
      exact q HA
end

theorem all_mk {l : PySem.W.OpenLaw} {w : World} {K : PySem.W.Frag} {h : Heap} {mg : Str → Option Value} {fa f_law_cell f_law_box f_law_take f_are_signs f_is_name f_number_in f_law_joined f_law_size f_law_depth f_law_units f_law_fits f_law_kind_text f_law_text f_law_names f_law_kind f_law_shapes f_joined f_Num_size f_Nested_size f_Many_size f_Pick_size f_Pick_chosen_size f_Shape_size f_Kind_depth f_Nested_depth f_Many_depth f_Pick_depth f_Shape_depth f_Num_units f_Nested_units f_Many_units f_Pick_units f_Num_init f_Nested_init f_Many_init f_Pick_init f_Shapes_init f_Shape_init f_is_form f_Draft_kind_in f_Shape_units f_Draft_init f_Draft_end_shape f_Draft_take_shape f_Draft_take_field f_read_shapes f_Num_spread f_Nested_spread f_Many_spread f_Pick_spread f_Shape_leaves f_law_parted f_law_meet f_law_right f_law C_Draft C_Kind C_Many C_Nested C_Num C_Pick C_Shape C_Shapes : Addr} (X : K.In h) (G : h.Ns mainGlobals mg) (hfa : mg "law" = some (.ref fa))
    {od_law_cell an_law_cell : Option Addr} {sl_law_cell : Array (Option Value)} {oc_law_cell kV_law_cell dc_law_cell pm_law_cell cd_law_cell ct_law_cell : Value}
    {od_law_box an_law_box : Option Addr} {sl_law_box : Array (Option Value)} {oc_law_box kV_law_box dc_law_box pm_law_box cd_law_box ct_law_box : Value}
    {od_law_take an_law_take : Option Addr} {sl_law_take : Array (Option Value)} {oc_law_take kV_law_take dc_law_take pm_law_take cd_law_take ct_law_take : Value}
    {od_are_signs an_are_signs : Option Addr} {sl_are_signs : Array (Option Value)} {oc_are_signs kV_are_signs dc_are_signs pm_are_signs cd_are_signs ct_are_signs : Value}
    {od_is_name an_is_name : Option Addr} {sl_is_name : Array (Option Value)} {oc_is_name kV_is_name dc_is_name pm_is_name cd_is_name ct_is_name : Value}
    {od_number_in an_number_in : Option Addr} {sl_number_in : Array (Option Value)} {oc_number_in kV_number_in dc_number_in pm_number_in cd_number_in ct_number_in : Value}
    {od_law_joined an_law_joined : Option Addr} {sl_law_joined : Array (Option Value)} {oc_law_joined kV_law_joined dc_law_joined pm_law_joined cd_law_joined ct_law_joined : Value}
    {od_law_size an_law_size : Option Addr} {sl_law_size : Array (Option Value)} {oc_law_size kV_law_size dc_law_size pm_law_size cd_law_size ct_law_size : Value}
    {od_law_depth an_law_depth : Option Addr} {sl_law_depth : Array (Option Value)} {oc_law_depth kV_law_depth dc_law_depth pm_law_depth cd_law_depth ct_law_depth : Value}
    {od_law_units an_law_units : Option Addr} {sl_law_units : Array (Option Value)} {oc_law_units kV_law_units dc_law_units pm_law_units cd_law_units ct_law_units : Value}
    {od_law_fits an_law_fits : Option Addr} {sl_law_fits : Array (Option Value)} {oc_law_fits kV_law_fits dc_law_fits pm_law_fits cd_law_fits ct_law_fits : Value}
    {od_law_kind_text an_law_kind_text : Option Addr} {sl_law_kind_text : Array (Option Value)} {oc_law_kind_text kV_law_kind_text dc_law_kind_text pm_law_kind_text cd_law_kind_text ct_law_kind_text : Value}
    {od_law_text an_law_text : Option Addr} {sl_law_text : Array (Option Value)} {oc_law_text kV_law_text dc_law_text pm_law_text cd_law_text ct_law_text : Value}
    {od_law_names an_law_names : Option Addr} {sl_law_names : Array (Option Value)} {oc_law_names kV_law_names dc_law_names pm_law_names cd_law_names ct_law_names : Value}
    {od_law_kind an_law_kind : Option Addr} {sl_law_kind : Array (Option Value)} {oc_law_kind kV_law_kind dc_law_kind pm_law_kind cd_law_kind ct_law_kind : Value}
    {od_law_shapes an_law_shapes : Option Addr} {sl_law_shapes : Array (Option Value)} {oc_law_shapes kV_law_shapes dc_law_shapes pm_law_shapes cd_law_shapes ct_law_shapes : Value}
    {od_joined an_joined : Option Addr} {sl_joined : Array (Option Value)} {oc_joined kV_joined dc_joined pm_joined cd_joined ct_joined : Value}
    {od_Num_size an_Num_size : Option Addr} {sl_Num_size : Array (Option Value)} {oc_Num_size kV_Num_size dc_Num_size pm_Num_size cd_Num_size ct_Num_size : Value}
    {od_Nested_size an_Nested_size : Option Addr} {sl_Nested_size : Array (Option Value)} {oc_Nested_size kV_Nested_size dc_Nested_size pm_Nested_size cd_Nested_size ct_Nested_size : Value}
    {od_Many_size an_Many_size : Option Addr} {sl_Many_size : Array (Option Value)} {oc_Many_size kV_Many_size dc_Many_size pm_Many_size cd_Many_size ct_Many_size : Value}
    {od_Pick_size an_Pick_size : Option Addr} {sl_Pick_size : Array (Option Value)} {oc_Pick_size kV_Pick_size dc_Pick_size pm_Pick_size cd_Pick_size ct_Pick_size : Value}
    {od_Pick_chosen_size an_Pick_chosen_size : Option Addr} {sl_Pick_chosen_size : Array (Option Value)} {oc_Pick_chosen_size kV_Pick_chosen_size dc_Pick_chosen_size pm_Pick_chosen_size cd_Pick_chosen_size ct_Pick_chosen_size : Value}
    {od_Shape_size an_Shape_size : Option Addr} {sl_Shape_size : Array (Option Value)} {oc_Shape_size kV_Shape_size dc_Shape_size pm_Shape_size cd_Shape_size ct_Shape_size : Value}
    {od_Kind_depth an_Kind_depth : Option Addr} {sl_Kind_depth : Array (Option Value)} {oc_Kind_depth kV_Kind_depth dc_Kind_depth pm_Kind_depth cd_Kind_depth ct_Kind_depth : Value}
    {od_Nested_depth an_Nested_depth : Option Addr} {sl_Nested_depth : Array (Option Value)} {oc_Nested_depth kV_Nested_depth dc_Nested_depth pm_Nested_depth cd_Nested_depth ct_Nested_depth : Value}
    {od_Many_depth an_Many_depth : Option Addr} {sl_Many_depth : Array (Option Value)} {oc_Many_depth kV_Many_depth dc_Many_depth pm_Many_depth cd_Many_depth ct_Many_depth : Value}
    {od_Pick_depth an_Pick_depth : Option Addr} {sl_Pick_depth : Array (Option Value)} {oc_Pick_depth kV_Pick_depth dc_Pick_depth pm_Pick_depth cd_Pick_depth ct_Pick_depth : Value}
    {od_Shape_depth an_Shape_depth : Option Addr} {sl_Shape_depth : Array (Option Value)} {oc_Shape_depth kV_Shape_depth dc_Shape_depth pm_Shape_depth cd_Shape_depth ct_Shape_depth : Value}
    {od_Num_units an_Num_units : Option Addr} {sl_Num_units : Array (Option Value)} {oc_Num_units kV_Num_units dc_Num_units pm_Num_units cd_Num_units ct_Num_units : Value}
    {od_Nested_units an_Nested_units : Option Addr} {sl_Nested_units : Array (Option Value)} {oc_Nested_units kV_Nested_units dc_Nested_units pm_Nested_units cd_Nested_units ct_Nested_units : Value}
    {od_Many_units an_Many_units : Option Addr} {sl_Many_units : Array (Option Value)} {oc_Many_units kV_Many_units dc_Many_units pm_Many_units cd_Many_units ct_Many_units : Value}
    {od_Pick_units an_Pick_units : Option Addr} {sl_Pick_units : Array (Option Value)} {oc_Pick_units kV_Pick_units dc_Pick_units pm_Pick_units cd_Pick_units ct_Pick_units : Value}
    {od_Num_init an_Num_init : Option Addr} {sl_Num_init : Array (Option Value)} {oc_Num_init kV_Num_init dc_Num_init pm_Num_init cd_Num_init ct_Num_init : Value}
    {od_Nested_init an_Nested_init : Option Addr} {sl_Nested_init : Array (Option Value)} {oc_Nested_init kV_Nested_init dc_Nested_init pm_Nested_init cd_Nested_init ct_Nested_init : Value}
    {od_Many_init an_Many_init : Option Addr} {sl_Many_init : Array (Option Value)} {oc_Many_init kV_Many_init dc_Many_init pm_Many_init cd_Many_init ct_Many_init : Value}
    {od_Pick_init an_Pick_init : Option Addr} {sl_Pick_init : Array (Option Value)} {oc_Pick_init kV_Pick_init dc_Pick_init pm_Pick_init cd_Pick_init ct_Pick_init : Value}
    {od_Shapes_init an_Shapes_init : Option Addr} {sl_Shapes_init : Array (Option Value)} {oc_Shapes_init kV_Shapes_init dc_Shapes_init pm_Shapes_init cd_Shapes_init ct_Shapes_init : Value}
    {od_Shape_init an_Shape_init : Option Addr} {sl_Shape_init : Array (Option Value)} {oc_Shape_init kV_Shape_init dc_Shape_init pm_Shape_init cd_Shape_init ct_Shape_init : Value}
    {od_is_form an_is_form : Option Addr} {sl_is_form : Array (Option Value)} {oc_is_form kV_is_form dc_is_form pm_is_form cd_is_form ct_is_form : Value}
    {od_Draft_kind_in an_Draft_kind_in : Option Addr} {sl_Draft_kind_in : Array (Option Value)} {oc_Draft_kind_in kV_Draft_kind_in dc_Draft_kind_in pm_Draft_kind_in cd_Draft_kind_in ct_Draft_kind_in : Value}
    {od_Shape_units an_Shape_units : Option Addr} {sl_Shape_units : Array (Option Value)} {oc_Shape_units kV_Shape_units dc_Shape_units pm_Shape_units cd_Shape_units ct_Shape_units : Value}
    {od_Draft_init an_Draft_init : Option Addr} {sl_Draft_init : Array (Option Value)} {oc_Draft_init kV_Draft_init dc_Draft_init pm_Draft_init cd_Draft_init ct_Draft_init : Value}
    {od_Draft_end_shape an_Draft_end_shape : Option Addr} {sl_Draft_end_shape : Array (Option Value)} {oc_Draft_end_shape kV_Draft_end_shape dc_Draft_end_shape pm_Draft_end_shape cd_Draft_end_shape ct_Draft_end_shape : Value}
    {od_Draft_take_shape an_Draft_take_shape : Option Addr} {sl_Draft_take_shape : Array (Option Value)} {oc_Draft_take_shape kV_Draft_take_shape dc_Draft_take_shape pm_Draft_take_shape cd_Draft_take_shape ct_Draft_take_shape : Value}
    {od_Draft_take_field an_Draft_take_field : Option Addr} {sl_Draft_take_field : Array (Option Value)} {oc_Draft_take_field kV_Draft_take_field dc_Draft_take_field pm_Draft_take_field cd_Draft_take_field ct_Draft_take_field : Value}
    {od_read_shapes an_read_shapes : Option Addr} {sl_read_shapes : Array (Option Value)} {oc_read_shapes kV_read_shapes dc_read_shapes pm_read_shapes cd_read_shapes ct_read_shapes : Value}
    {od_Num_spread an_Num_spread : Option Addr} {sl_Num_spread : Array (Option Value)} {oc_Num_spread kV_Num_spread dc_Num_spread pm_Num_spread cd_Num_spread ct_Num_spread : Value}
    {od_Nested_spread an_Nested_spread : Option Addr} {sl_Nested_spread : Array (Option Value)} {oc_Nested_spread kV_Nested_spread dc_Nested_spread pm_Nested_spread cd_Nested_spread ct_Nested_spread : Value}
    {od_Many_spread an_Many_spread : Option Addr} {sl_Many_spread : Array (Option Value)} {oc_Many_spread kV_Many_spread dc_Many_spread pm_Many_spread cd_Many_spread ct_Many_spread : Value}
    {od_Pick_spread an_Pick_spread : Option Addr} {sl_Pick_spread : Array (Option Value)} {oc_Pick_spread kV_Pick_spread dc_Pick_spread pm_Pick_spread cd_Pick_spread ct_Pick_spread : Value}
    {od_Shape_leaves an_Shape_leaves : Option Addr} {sl_Shape_leaves : Array (Option Value)} {oc_Shape_leaves kV_Shape_leaves dc_Shape_leaves pm_Shape_leaves cd_Shape_leaves ct_Shape_leaves : Value}
    {od_law_parted an_law_parted : Option Addr} {sl_law_parted : Array (Option Value)} {oc_law_parted kV_law_parted dc_law_parted pm_law_parted cd_law_parted ct_law_parted : Value}
    {od_law_meet an_law_meet : Option Addr} {sl_law_meet : Array (Option Value)} {oc_law_meet kV_law_meet dc_law_meet pm_law_meet cd_law_meet ct_law_meet : Value}
    {od_law_right an_law_right : Option Addr} {sl_law_right : Array (Option Value)} {oc_law_right kV_law_right dc_law_right pm_law_right cd_law_right ct_law_right : Value}
    {od_law an_law : Option Addr} {sl_law : Array (Option Value)} {oc_law kV_law dc_law pm_law cd_law ct_law : Value}
    (aC_Draft : PySem.W.nsIn K mainGlobals "Draft" = some (some (.ref C_Draft)))
    (pg_Draft : PySem.W.plainGet K C_Draft Str.empty = true)
    (hd_Draft : PySem.W.hasDictIn K C_Draft = true)
    (po_Draft : PySem.W.plainOver K C_Draft = true)
    (sa_Draft : PySem.W.findIn K (.ref C_Draft) "__setattr__" = some (some (.builtin "object.__setattr__")))
    (mk_Draft : PySem.W.makesIn K C_Draft = true)
    (kc_Draft : PySem.W.keepIn K (.ref C_Draft) = true)
    (aC_Kind : PySem.W.nsIn K mainGlobals "Kind" = some (some (.ref C_Kind)))
    (pg_Kind : PySem.W.plainGet K C_Kind Str.empty = true)
    (hd_Kind : PySem.W.hasDictIn K C_Kind = true)
    (po_Kind : PySem.W.plainOver K C_Kind = true)
    (sa_Kind : PySem.W.findIn K (.ref C_Kind) "__setattr__" = some (some (.builtin "object.__setattr__")))
    (aC_Many : PySem.W.nsIn K mainGlobals "Many" = some (some (.ref C_Many)))
    (pg_Many : PySem.W.plainGet K C_Many Str.empty = true)
    (hd_Many : PySem.W.hasDictIn K C_Many = true)
    (po_Many : PySem.W.plainOver K C_Many = true)
    (sa_Many : PySem.W.findIn K (.ref C_Many) "__setattr__" = some (some (.builtin "object.__setattr__")))
    (mk_Many : PySem.W.makesIn K C_Many = true)
    (kc_Many : PySem.W.keepIn K (.ref C_Many) = true)
    (aC_Nested : PySem.W.nsIn K mainGlobals "Nested" = some (some (.ref C_Nested)))
    (pg_Nested : PySem.W.plainGet K C_Nested Str.empty = true)
    (hd_Nested : PySem.W.hasDictIn K C_Nested = true)
    (po_Nested : PySem.W.plainOver K C_Nested = true)
    (sa_Nested : PySem.W.findIn K (.ref C_Nested) "__setattr__" = some (some (.builtin "object.__setattr__")))
    (mk_Nested : PySem.W.makesIn K C_Nested = true)
    (kc_Nested : PySem.W.keepIn K (.ref C_Nested) = true)
    (aC_Num : PySem.W.nsIn K mainGlobals "Num" = some (some (.ref C_Num)))
    (pg_Num : PySem.W.plainGet K C_Num Str.empty = true)
    (hd_Num : PySem.W.hasDictIn K C_Num = true)
    (po_Num : PySem.W.plainOver K C_Num = true)
    (sa_Num : PySem.W.findIn K (.ref C_Num) "__setattr__" = some (some (.builtin "object.__setattr__")))
    (mk_Num : PySem.W.makesIn K C_Num = true)
    (kc_Num : PySem.W.keepIn K (.ref C_Num) = true)
    (aC_Pick : PySem.W.nsIn K mainGlobals "Pick" = some (some (.ref C_Pick)))
    (pg_Pick : PySem.W.plainGet K C_Pick Str.empty = true)
    (hd_Pick : PySem.W.hasDictIn K C_Pick = true)
    (po_Pick : PySem.W.plainOver K C_Pick = true)
    (sa_Pick : PySem.W.findIn K (.ref C_Pick) "__setattr__" = some (some (.builtin "object.__setattr__")))
    (mk_Pick : PySem.W.makesIn K C_Pick = true)
    (kc_Pick : PySem.W.keepIn K (.ref C_Pick) = true)
    (aC_Shape : PySem.W.nsIn K mainGlobals "Shape" = some (some (.ref C_Shape)))
    (pg_Shape : PySem.W.plainGet K C_Shape Str.empty = true)
    (hd_Shape : PySem.W.hasDictIn K C_Shape = true)
    (po_Shape : PySem.W.plainOver K C_Shape = true)
    (sa_Shape : PySem.W.findIn K (.ref C_Shape) "__setattr__" = some (some (.builtin "object.__setattr__")))
    (mk_Shape : PySem.W.makesIn K C_Shape = true)
    (kc_Shape : PySem.W.keepIn K (.ref C_Shape) = true)
    (aC_Shapes : PySem.W.nsIn K mainGlobals "Shapes" = some (some (.ref C_Shapes)))
    (pg_Shapes : PySem.W.plainGet K C_Shapes Str.empty = true)
    (hd_Shapes : PySem.W.hasDictIn K C_Shapes = true)
    (po_Shapes : PySem.W.plainOver K C_Shapes = true)
    (sa_Shapes : PySem.W.findIn K (.ref C_Shapes) "__setattr__" = some (some (.builtin "object.__setattr__")))
    (mk_Shapes : PySem.W.makesIn K C_Shapes = true)
    (kc_Shapes : PySem.W.keepIn K (.ref C_Shapes) = true)
    (nA_Draft_begun : PySem.W.findIn K (.ref C_Draft) "begun" = some none)
    (nA_Draft_fields : PySem.W.findIn K (.ref C_Draft) "fields" = some none)
    (nA_Draft_known : PySem.W.findIn K (.ref C_Draft) "known" = some none)
    (nA_Many_count : PySem.W.findIn K (.ref C_Many) "count" = some none)
    (nA_Many_kind : PySem.W.findIn K (.ref C_Many) "kind" = some none)
    (nA_Nested_shape : PySem.W.findIn K (.ref C_Nested) "shape" = some none)
    (nA_Num_width : PySem.W.findIn K (.ref C_Num) "width" = some none)
    (nA_Pick_shapes : PySem.W.findIn K (.ref C_Pick) "shapes" = some none)
    (nA_Shape_fields : PySem.W.findIn K (.ref C_Shape) "fields" = some none)
    (nA_Shape_name : PySem.W.findIn K (.ref C_Shape) "name" = some none)
    (nA_Shapes_shapes : PySem.W.findIn K (.ref C_Shapes) "shapes" = some none)
    (a_law_cell : PySem.W.nsIn K mainGlobals "_law_cell" = some (some (.ref f_law_cell)))
    (l_law_cell : K.lookup f_law_cell = some ⟨oc_law_cell, od_law_cell, .func (PySem.W.fnOf "_law_cell" "_law_cell" (defArgs s_law_cell) (defBody s_law_cell) (defScope s_law_cell) .none kV_law_cell dc_law_cell pm_law_cell an_law_cell cd_law_cell ct_law_cell), sl_law_cell⟩)
    (c_law_cell : PySem.W.codeIn K cd_law_cell "_law_cell" = true)
    (k_law_cell : PySem.W.keepIn K (.ref f_law_cell) = true)
    (a_law_box : PySem.W.nsIn K mainGlobals "_law_box" = some (some (.ref f_law_box)))
    (l_law_box : K.lookup f_law_box = some ⟨oc_law_box, od_law_box, .func (PySem.W.fnOf "_law_box" "_law_box" (defArgs s_law_box) (defBody s_law_box) (defScope s_law_box) .none kV_law_box dc_law_box pm_law_box an_law_box cd_law_box ct_law_box), sl_law_box⟩)
    (c_law_box : PySem.W.codeIn K cd_law_box "_law_box" = true)
    (k_law_box : PySem.W.keepIn K (.ref f_law_box) = true)
    (a_law_take : PySem.W.nsIn K mainGlobals "_law_take" = some (some (.ref f_law_take)))
    (l_law_take : K.lookup f_law_take = some ⟨oc_law_take, od_law_take, .func (PySem.W.fnOf "_law_take" "_law_take" (defArgs s_law_take) (defBody s_law_take) (defScope s_law_take) .none kV_law_take dc_law_take pm_law_take an_law_take cd_law_take ct_law_take), sl_law_take⟩)
    (c_law_take : PySem.W.codeIn K cd_law_take "_law_take" = true)
    (k_law_take : PySem.W.keepIn K (.ref f_law_take) = true)
    (a_are_signs : PySem.W.nsIn K mainGlobals "are_signs" = some (some (.ref f_are_signs)))
    (l_are_signs : K.lookup f_are_signs = some ⟨oc_are_signs, od_are_signs, .func (PySem.W.fnOf "are_signs" "are_signs" (defArgs s_are_signs) (defBody s_are_signs) (defScope s_are_signs) .none kV_are_signs dc_are_signs pm_are_signs an_are_signs cd_are_signs ct_are_signs), sl_are_signs⟩)
    (c_are_signs : PySem.W.codeIn K cd_are_signs "are_signs" = true)
    (k_are_signs : PySem.W.keepIn K (.ref f_are_signs) = true)
    (a_is_name : PySem.W.nsIn K mainGlobals "is_name" = some (some (.ref f_is_name)))
    (l_is_name : K.lookup f_is_name = some ⟨oc_is_name, od_is_name, .func (PySem.W.fnOf "is_name" "is_name" (defArgs s_is_name) (defBody s_is_name) (defScope s_is_name) .none kV_is_name dc_is_name pm_is_name an_is_name cd_is_name ct_is_name), sl_is_name⟩)
    (c_is_name : PySem.W.codeIn K cd_is_name "is_name" = true)
    (k_is_name : PySem.W.keepIn K (.ref f_is_name) = true)
    (a_number_in : PySem.W.nsIn K mainGlobals "number_in" = some (some (.ref f_number_in)))
    (l_number_in : K.lookup f_number_in = some ⟨oc_number_in, od_number_in, .func (PySem.W.fnOf "number_in" "number_in" (defArgs s_number_in) (defBody s_number_in) (defScope s_number_in) .none kV_number_in dc_number_in pm_number_in an_number_in cd_number_in ct_number_in), sl_number_in⟩)
    (c_number_in : PySem.W.codeIn K cd_number_in "number_in" = true)
    (k_number_in : PySem.W.keepIn K (.ref f_number_in) = true)
    (a_law_joined : PySem.W.nsIn K mainGlobals "_law_joined" = some (some (.ref f_law_joined)))
    (l_law_joined : K.lookup f_law_joined = some ⟨oc_law_joined, od_law_joined, .func (PySem.W.fnOf "_law_joined" "_law_joined" (defArgs s_law_joined) (defBody s_law_joined) (defScope s_law_joined) .none kV_law_joined dc_law_joined pm_law_joined an_law_joined cd_law_joined ct_law_joined), sl_law_joined⟩)
    (c_law_joined : PySem.W.codeIn K cd_law_joined "_law_joined" = true)
    (k_law_joined : PySem.W.keepIn K (.ref f_law_joined) = true)
    (a_law_size : PySem.W.nsIn K mainGlobals "_law_size" = some (some (.ref f_law_size)))
    (l_law_size : K.lookup f_law_size = some ⟨oc_law_size, od_law_size, .func (PySem.W.fnOf "_law_size" "_law_size" (defArgs s_law_size) (defBody s_law_size) (defScope s_law_size) .none kV_law_size dc_law_size pm_law_size an_law_size cd_law_size ct_law_size), sl_law_size⟩)
    (c_law_size : PySem.W.codeIn K cd_law_size "_law_size" = true)
    (k_law_size : PySem.W.keepIn K (.ref f_law_size) = true)
    (a_law_depth : PySem.W.nsIn K mainGlobals "_law_depth" = some (some (.ref f_law_depth)))
    (l_law_depth : K.lookup f_law_depth = some ⟨oc_law_depth, od_law_depth, .func (PySem.W.fnOf "_law_depth" "_law_depth" (defArgs s_law_depth) (defBody s_law_depth) (defScope s_law_depth) .none kV_law_depth dc_law_depth pm_law_depth an_law_depth cd_law_depth ct_law_depth), sl_law_depth⟩)
    (c_law_depth : PySem.W.codeIn K cd_law_depth "_law_depth" = true)
    (k_law_depth : PySem.W.keepIn K (.ref f_law_depth) = true)
    (a_law_units : PySem.W.nsIn K mainGlobals "_law_units" = some (some (.ref f_law_units)))
    (l_law_units : K.lookup f_law_units = some ⟨oc_law_units, od_law_units, .func (PySem.W.fnOf "_law_units" "_law_units" (defArgs s_law_units) (defBody s_law_units) (defScope s_law_units) .none kV_law_units dc_law_units pm_law_units an_law_units cd_law_units ct_law_units), sl_law_units⟩)
    (c_law_units : PySem.W.codeIn K cd_law_units "_law_units" = true)
    (k_law_units : PySem.W.keepIn K (.ref f_law_units) = true)
    (a_law_fits : PySem.W.nsIn K mainGlobals "_law_fits" = some (some (.ref f_law_fits)))
    (l_law_fits : K.lookup f_law_fits = some ⟨oc_law_fits, od_law_fits, .func (PySem.W.fnOf "_law_fits" "_law_fits" (defArgs s_law_fits) (defBody s_law_fits) (defScope s_law_fits) .none kV_law_fits dc_law_fits pm_law_fits an_law_fits cd_law_fits ct_law_fits), sl_law_fits⟩)
    (c_law_fits : PySem.W.codeIn K cd_law_fits "_law_fits" = true)
    (k_law_fits : PySem.W.keepIn K (.ref f_law_fits) = true)
    (a_law_kind_text : PySem.W.nsIn K mainGlobals "_law_kind_text" = some (some (.ref f_law_kind_text)))
    (l_law_kind_text : K.lookup f_law_kind_text = some ⟨oc_law_kind_text, od_law_kind_text, .func (PySem.W.fnOf "_law_kind_text" "_law_kind_text" (defArgs s_law_kind_text) (defBody s_law_kind_text) (defScope s_law_kind_text) .none kV_law_kind_text dc_law_kind_text pm_law_kind_text an_law_kind_text cd_law_kind_text ct_law_kind_text), sl_law_kind_text⟩)
    (c_law_kind_text : PySem.W.codeIn K cd_law_kind_text "_law_kind_text" = true)
    (k_law_kind_text : PySem.W.keepIn K (.ref f_law_kind_text) = true)
    (a_law_text : PySem.W.nsIn K mainGlobals "_law_text" = some (some (.ref f_law_text)))
    (l_law_text : K.lookup f_law_text = some ⟨oc_law_text, od_law_text, .func (PySem.W.fnOf "_law_text" "_law_text" (defArgs s_law_text) (defBody s_law_text) (defScope s_law_text) .none kV_law_text dc_law_text pm_law_text an_law_text cd_law_text ct_law_text), sl_law_text⟩)
    (c_law_text : PySem.W.codeIn K cd_law_text "_law_text" = true)
    (k_law_text : PySem.W.keepIn K (.ref f_law_text) = true)
    (a_law_names : PySem.W.nsIn K mainGlobals "_law_names" = some (some (.ref f_law_names)))
    (l_law_names : K.lookup f_law_names = some ⟨oc_law_names, od_law_names, .func (PySem.W.fnOf "_law_names" "_law_names" (defArgs s_law_names) (defBody s_law_names) (defScope s_law_names) .none kV_law_names dc_law_names pm_law_names an_law_names cd_law_names ct_law_names), sl_law_names⟩)
    (c_law_names : PySem.W.codeIn K cd_law_names "_law_names" = true)
    (k_law_names : PySem.W.keepIn K (.ref f_law_names) = true)
    (a_law_kind : PySem.W.nsIn K mainGlobals "_law_kind" = some (some (.ref f_law_kind)))
    (l_law_kind : K.lookup f_law_kind = some ⟨oc_law_kind, od_law_kind, .func (PySem.W.fnOf "_law_kind" "_law_kind" (defArgs s_law_kind) (defBody s_law_kind) (defScope s_law_kind) .none kV_law_kind dc_law_kind pm_law_kind an_law_kind cd_law_kind ct_law_kind), sl_law_kind⟩)
    (c_law_kind : PySem.W.codeIn K cd_law_kind "_law_kind" = true)
    (k_law_kind : PySem.W.keepIn K (.ref f_law_kind) = true)
    (a_law_shapes : PySem.W.nsIn K mainGlobals "_law_shapes" = some (some (.ref f_law_shapes)))
    (l_law_shapes : K.lookup f_law_shapes = some ⟨oc_law_shapes, od_law_shapes, .func (PySem.W.fnOf "_law_shapes" "_law_shapes" (defArgs s_law_shapes) (defBody s_law_shapes) (defScope s_law_shapes) .none kV_law_shapes dc_law_shapes pm_law_shapes an_law_shapes cd_law_shapes ct_law_shapes), sl_law_shapes⟩)
    (c_law_shapes : PySem.W.codeIn K cd_law_shapes "_law_shapes" = true)
    (k_law_shapes : PySem.W.keepIn K (.ref f_law_shapes) = true)
    (a_joined : PySem.W.nsIn K mainGlobals "joined" = some (some (.ref f_joined)))
    (l_joined : K.lookup f_joined = some ⟨oc_joined, od_joined, .func (PySem.W.fnOf "joined" "joined" (defArgs s_joined) (defBody s_joined) (defScope s_joined) .none kV_joined dc_joined pm_joined an_joined cd_joined ct_joined), sl_joined⟩)
    (c_joined : PySem.W.codeIn K cd_joined "joined" = true)
    (k_joined : PySem.W.keepIn K (.ref f_joined) = true)
    (a_Num_size : PySem.W.findIn K (.ref C_Num) "size" = some (some (.ref f_Num_size)))
    (i_Num_size : PySem.W.isFn K (.ref f_Num_size) = true)
    (l_Num_size : K.lookup f_Num_size = some ⟨oc_Num_size, od_Num_size, .func (PySem.W.fnOf "size" "Num.size" (defArgs s_Num_size) (defBody s_Num_size) (defScope s_Num_size) .none kV_Num_size dc_Num_size pm_Num_size an_Num_size cd_Num_size ct_Num_size), sl_Num_size⟩)
    (c_Num_size : PySem.W.codeIn K cd_Num_size "Num.size" = true)
    (k_Num_size : PySem.W.keepIn K (.ref f_Num_size) = true)
    (a_Nested_size : PySem.W.findIn K (.ref C_Nested) "size" = some (some (.ref f_Nested_size)))
    (i_Nested_size : PySem.W.isFn K (.ref f_Nested_size) = true)
    (l_Nested_size : K.lookup f_Nested_size = some ⟨oc_Nested_size, od_Nested_size, .func (PySem.W.fnOf "size" "Nested.size" (defArgs s_Nested_size) (defBody s_Nested_size) (defScope s_Nested_size) .none kV_Nested_size dc_Nested_size pm_Nested_size an_Nested_size cd_Nested_size ct_Nested_size), sl_Nested_size⟩)
    (c_Nested_size : PySem.W.codeIn K cd_Nested_size "Nested.size" = true)
    (k_Nested_size : PySem.W.keepIn K (.ref f_Nested_size) = true)
    (a_Many_size : PySem.W.findIn K (.ref C_Many) "size" = some (some (.ref f_Many_size)))
    (i_Many_size : PySem.W.isFn K (.ref f_Many_size) = true)
    (l_Many_size : K.lookup f_Many_size = some ⟨oc_Many_size, od_Many_size, .func (PySem.W.fnOf "size" "Many.size" (defArgs s_Many_size) (defBody s_Many_size) (defScope s_Many_size) .none kV_Many_size dc_Many_size pm_Many_size an_Many_size cd_Many_size ct_Many_size), sl_Many_size⟩)
    (c_Many_size : PySem.W.codeIn K cd_Many_size "Many.size" = true)
    (k_Many_size : PySem.W.keepIn K (.ref f_Many_size) = true)
    (a_Pick_size : PySem.W.findIn K (.ref C_Pick) "size" = some (some (.ref f_Pick_size)))
    (i_Pick_size : PySem.W.isFn K (.ref f_Pick_size) = true)
    (l_Pick_size : K.lookup f_Pick_size = some ⟨oc_Pick_size, od_Pick_size, .func (PySem.W.fnOf "size" "Pick.size" (defArgs s_Pick_size) (defBody s_Pick_size) (defScope s_Pick_size) .none kV_Pick_size dc_Pick_size pm_Pick_size an_Pick_size cd_Pick_size ct_Pick_size), sl_Pick_size⟩)
    (c_Pick_size : PySem.W.codeIn K cd_Pick_size "Pick.size" = true)
    (k_Pick_size : PySem.W.keepIn K (.ref f_Pick_size) = true)
    (a_Pick_chosen_size : PySem.W.findIn K (.ref C_Pick) "chosen_size" = some (some (.ref f_Pick_chosen_size)))
    (i_Pick_chosen_size : PySem.W.isFn K (.ref f_Pick_chosen_size) = true)
    (l_Pick_chosen_size : K.lookup f_Pick_chosen_size = some ⟨oc_Pick_chosen_size, od_Pick_chosen_size, .func (PySem.W.fnOf "chosen_size" "Pick.chosen_size" (defArgs s_Pick_chosen_size) (defBody s_Pick_chosen_size) (defScope s_Pick_chosen_size) .none kV_Pick_chosen_size dc_Pick_chosen_size pm_Pick_chosen_size an_Pick_chosen_size cd_Pick_chosen_size ct_Pick_chosen_size), sl_Pick_chosen_size⟩)
    (c_Pick_chosen_size : PySem.W.codeIn K cd_Pick_chosen_size "Pick.chosen_size" = true)
    (k_Pick_chosen_size : PySem.W.keepIn K (.ref f_Pick_chosen_size) = true)
    (a_Shape_size : PySem.W.findIn K (.ref C_Shape) "size" = some (some (.ref f_Shape_size)))
    (i_Shape_size : PySem.W.isFn K (.ref f_Shape_size) = true)
    (l_Shape_size : K.lookup f_Shape_size = some ⟨oc_Shape_size, od_Shape_size, .func (PySem.W.fnOf "size" "Shape.size" (defArgs s_Shape_size) (defBody s_Shape_size) (defScope s_Shape_size) .none kV_Shape_size dc_Shape_size pm_Shape_size an_Shape_size cd_Shape_size ct_Shape_size), sl_Shape_size⟩)
    (c_Shape_size : PySem.W.codeIn K cd_Shape_size "Shape.size" = true)
    (k_Shape_size : PySem.W.keepIn K (.ref f_Shape_size) = true)
    (a_Kind_depth : PySem.W.findIn K (.ref C_Kind) "depth" = some (some (.ref f_Kind_depth)))
    (i_Kind_depth : PySem.W.isFn K (.ref f_Kind_depth) = true)
    (l_Kind_depth : K.lookup f_Kind_depth = some ⟨oc_Kind_depth, od_Kind_depth, .func (PySem.W.fnOf "depth" "Kind.depth" (defArgs s_Kind_depth) (defBody s_Kind_depth) (defScope s_Kind_depth) .none kV_Kind_depth dc_Kind_depth pm_Kind_depth an_Kind_depth cd_Kind_depth ct_Kind_depth), sl_Kind_depth⟩)
    (c_Kind_depth : PySem.W.codeIn K cd_Kind_depth "Kind.depth" = true)
    (k_Kind_depth : PySem.W.keepIn K (.ref f_Kind_depth) = true)
    (a_Nested_depth : PySem.W.findIn K (.ref C_Nested) "depth" = some (some (.ref f_Nested_depth)))
    (i_Nested_depth : PySem.W.isFn K (.ref f_Nested_depth) = true)
    (l_Nested_depth : K.lookup f_Nested_depth = some ⟨oc_Nested_depth, od_Nested_depth, .func (PySem.W.fnOf "depth" "Nested.depth" (defArgs s_Nested_depth) (defBody s_Nested_depth) (defScope s_Nested_depth) .none kV_Nested_depth dc_Nested_depth pm_Nested_depth an_Nested_depth cd_Nested_depth ct_Nested_depth), sl_Nested_depth⟩)
    (c_Nested_depth : PySem.W.codeIn K cd_Nested_depth "Nested.depth" = true)
    (k_Nested_depth : PySem.W.keepIn K (.ref f_Nested_depth) = true)
    (a_Many_depth : PySem.W.findIn K (.ref C_Many) "depth" = some (some (.ref f_Many_depth)))
    (i_Many_depth : PySem.W.isFn K (.ref f_Many_depth) = true)
    (l_Many_depth : K.lookup f_Many_depth = some ⟨oc_Many_depth, od_Many_depth, .func (PySem.W.fnOf "depth" "Many.depth" (defArgs s_Many_depth) (defBody s_Many_depth) (defScope s_Many_depth) .none kV_Many_depth dc_Many_depth pm_Many_depth an_Many_depth cd_Many_depth ct_Many_depth), sl_Many_depth⟩)
    (c_Many_depth : PySem.W.codeIn K cd_Many_depth "Many.depth" = true)
    (k_Many_depth : PySem.W.keepIn K (.ref f_Many_depth) = true)
    (a_Pick_depth : PySem.W.findIn K (.ref C_Pick) "depth" = some (some (.ref f_Pick_depth)))
    (i_Pick_depth : PySem.W.isFn K (.ref f_Pick_depth) = true)
    (l_Pick_depth : K.lookup f_Pick_depth = some ⟨oc_Pick_depth, od_Pick_depth, .func (PySem.W.fnOf "depth" "Pick.depth" (defArgs s_Pick_depth) (defBody s_Pick_depth) (defScope s_Pick_depth) .none kV_Pick_depth dc_Pick_depth pm_Pick_depth an_Pick_depth cd_Pick_depth ct_Pick_depth), sl_Pick_depth⟩)
    (c_Pick_depth : PySem.W.codeIn K cd_Pick_depth "Pick.depth" = true)
    (k_Pick_depth : PySem.W.keepIn K (.ref f_Pick_depth) = true)
    (a_Shape_depth : PySem.W.findIn K (.ref C_Shape) "depth" = some (some (.ref f_Shape_depth)))
    (i_Shape_depth : PySem.W.isFn K (.ref f_Shape_depth) = true)
    (l_Shape_depth : K.lookup f_Shape_depth = some ⟨oc_Shape_depth, od_Shape_depth, .func (PySem.W.fnOf "depth" "Shape.depth" (defArgs s_Shape_depth) (defBody s_Shape_depth) (defScope s_Shape_depth) .none kV_Shape_depth dc_Shape_depth pm_Shape_depth an_Shape_depth cd_Shape_depth ct_Shape_depth), sl_Shape_depth⟩)
    (c_Shape_depth : PySem.W.codeIn K cd_Shape_depth "Shape.depth" = true)
    (k_Shape_depth : PySem.W.keepIn K (.ref f_Shape_depth) = true)
    (a_Num_units : PySem.W.findIn K (.ref C_Num) "units" = some (some (.ref f_Num_units)))
    (i_Num_units : PySem.W.isFn K (.ref f_Num_units) = true)
    (l_Num_units : K.lookup f_Num_units = some ⟨oc_Num_units, od_Num_units, .func (PySem.W.fnOf "units" "Num.units" (defArgs s_Num_units) (defBody s_Num_units) (defScope s_Num_units) .none kV_Num_units dc_Num_units pm_Num_units an_Num_units cd_Num_units ct_Num_units), sl_Num_units⟩)
    (c_Num_units : PySem.W.codeIn K cd_Num_units "Num.units" = true)
    (k_Num_units : PySem.W.keepIn K (.ref f_Num_units) = true)
    (a_Nested_units : PySem.W.findIn K (.ref C_Nested) "units" = some (some (.ref f_Nested_units)))
    (i_Nested_units : PySem.W.isFn K (.ref f_Nested_units) = true)
    (l_Nested_units : K.lookup f_Nested_units = some ⟨oc_Nested_units, od_Nested_units, .func (PySem.W.fnOf "units" "Nested.units" (defArgs s_Nested_units) (defBody s_Nested_units) (defScope s_Nested_units) .none kV_Nested_units dc_Nested_units pm_Nested_units an_Nested_units cd_Nested_units ct_Nested_units), sl_Nested_units⟩)
    (c_Nested_units : PySem.W.codeIn K cd_Nested_units "Nested.units" = true)
    (k_Nested_units : PySem.W.keepIn K (.ref f_Nested_units) = true)
    (a_Many_units : PySem.W.findIn K (.ref C_Many) "units" = some (some (.ref f_Many_units)))
    (i_Many_units : PySem.W.isFn K (.ref f_Many_units) = true)
    (l_Many_units : K.lookup f_Many_units = some ⟨oc_Many_units, od_Many_units, .func (PySem.W.fnOf "units" "Many.units" (defArgs s_Many_units) (defBody s_Many_units) (defScope s_Many_units) .none kV_Many_units dc_Many_units pm_Many_units an_Many_units cd_Many_units ct_Many_units), sl_Many_units⟩)
    (c_Many_units : PySem.W.codeIn K cd_Many_units "Many.units" = true)
    (k_Many_units : PySem.W.keepIn K (.ref f_Many_units) = true)
    (a_Pick_units : PySem.W.findIn K (.ref C_Pick) "units" = some (some (.ref f_Pick_units)))
    (i_Pick_units : PySem.W.isFn K (.ref f_Pick_units) = true)
    (l_Pick_units : K.lookup f_Pick_units = some ⟨oc_Pick_units, od_Pick_units, .func (PySem.W.fnOf "units" "Pick.units" (defArgs s_Pick_units) (defBody s_Pick_units) (defScope s_Pick_units) .none kV_Pick_units dc_Pick_units pm_Pick_units an_Pick_units cd_Pick_units ct_Pick_units), sl_Pick_units⟩)
    (c_Pick_units : PySem.W.codeIn K cd_Pick_units "Pick.units" = true)
    (k_Pick_units : PySem.W.keepIn K (.ref f_Pick_units) = true)
    (a_Num_init : PySem.W.findIn K (.ref C_Num) "__init__" = some (some (.ref f_Num_init)))
    (i_Num_init : PySem.W.isFn K (.ref f_Num_init) = true)
    (l_Num_init : K.lookup f_Num_init = some ⟨oc_Num_init, od_Num_init, .func (PySem.W.fnOf "__init__" "Num.__init__" (defArgs s_Num_init) (defBody s_Num_init) (defScope s_Num_init) .none kV_Num_init dc_Num_init pm_Num_init an_Num_init cd_Num_init ct_Num_init), sl_Num_init⟩)
    (c_Num_init : PySem.W.codeIn K cd_Num_init "Num.__init__" = true)
    (k_Num_init : PySem.W.keepIn K (.ref f_Num_init) = true)
    (a_Nested_init : PySem.W.findIn K (.ref C_Nested) "__init__" = some (some (.ref f_Nested_init)))
    (i_Nested_init : PySem.W.isFn K (.ref f_Nested_init) = true)
    (l_Nested_init : K.lookup f_Nested_init = some ⟨oc_Nested_init, od_Nested_init, .func (PySem.W.fnOf "__init__" "Nested.__init__" (defArgs s_Nested_init) (defBody s_Nested_init) (defScope s_Nested_init) .none kV_Nested_init dc_Nested_init pm_Nested_init an_Nested_init cd_Nested_init ct_Nested_init), sl_Nested_init⟩)
    (c_Nested_init : PySem.W.codeIn K cd_Nested_init "Nested.__init__" = true)
    (k_Nested_init : PySem.W.keepIn K (.ref f_Nested_init) = true)
    (a_Many_init : PySem.W.findIn K (.ref C_Many) "__init__" = some (some (.ref f_Many_init)))
    (i_Many_init : PySem.W.isFn K (.ref f_Many_init) = true)
    (l_Many_init : K.lookup f_Many_init = some ⟨oc_Many_init, od_Many_init, .func (PySem.W.fnOf "__init__" "Many.__init__" (defArgs s_Many_init) (defBody s_Many_init) (defScope s_Many_init) .none kV_Many_init dc_Many_init pm_Many_init an_Many_init cd_Many_init ct_Many_init), sl_Many_init⟩)
    (c_Many_init : PySem.W.codeIn K cd_Many_init "Many.__init__" = true)
    (k_Many_init : PySem.W.keepIn K (.ref f_Many_init) = true)
    (a_Pick_init : PySem.W.findIn K (.ref C_Pick) "__init__" = some (some (.ref f_Pick_init)))
    (i_Pick_init : PySem.W.isFn K (.ref f_Pick_init) = true)
    (l_Pick_init : K.lookup f_Pick_init = some ⟨oc_Pick_init, od_Pick_init, .func (PySem.W.fnOf "__init__" "Pick.__init__" (defArgs s_Pick_init) (defBody s_Pick_init) (defScope s_Pick_init) .none kV_Pick_init dc_Pick_init pm_Pick_init an_Pick_init cd_Pick_init ct_Pick_init), sl_Pick_init⟩)
    (c_Pick_init : PySem.W.codeIn K cd_Pick_init "Pick.__init__" = true)
    (k_Pick_init : PySem.W.keepIn K (.ref f_Pick_init) = true)
    (a_Shapes_init : PySem.W.findIn K (.ref C_Shapes) "__init__" = some (some (.ref f_Shapes_init)))
    (i_Shapes_init : PySem.W.isFn K (.ref f_Shapes_init) = true)
    (l_Shapes_init : K.lookup f_Shapes_init = some ⟨oc_Shapes_init, od_Shapes_init, .func (PySem.W.fnOf "__init__" "Shapes.__init__" (defArgs s_Shapes_init) (defBody s_Shapes_init) (defScope s_Shapes_init) .none kV_Shapes_init dc_Shapes_init pm_Shapes_init an_Shapes_init cd_Shapes_init ct_Shapes_init), sl_Shapes_init⟩)
    (c_Shapes_init : PySem.W.codeIn K cd_Shapes_init "Shapes.__init__" = true)
    (k_Shapes_init : PySem.W.keepIn K (.ref f_Shapes_init) = true)
    (a_Shape_init : PySem.W.findIn K (.ref C_Shape) "__init__" = some (some (.ref f_Shape_init)))
    (i_Shape_init : PySem.W.isFn K (.ref f_Shape_init) = true)
    (l_Shape_init : K.lookup f_Shape_init = some ⟨oc_Shape_init, od_Shape_init, .func (PySem.W.fnOf "__init__" "Shape.__init__" (defArgs s_Shape_init) (defBody s_Shape_init) (defScope s_Shape_init) .none kV_Shape_init dc_Shape_init pm_Shape_init an_Shape_init cd_Shape_init ct_Shape_init), sl_Shape_init⟩)
    (c_Shape_init : PySem.W.codeIn K cd_Shape_init "Shape.__init__" = true)
    (k_Shape_init : PySem.W.keepIn K (.ref f_Shape_init) = true)
    (a_is_form : PySem.W.nsIn K mainGlobals "is_form" = some (some (.ref f_is_form)))
    (l_is_form : K.lookup f_is_form = some ⟨oc_is_form, od_is_form, .func (PySem.W.fnOf "is_form" "is_form" (defArgs s_is_form) (defBody s_is_form) (defScope s_is_form) .none kV_is_form dc_is_form pm_is_form an_is_form cd_is_form ct_is_form), sl_is_form⟩)
    (c_is_form : PySem.W.codeIn K cd_is_form "is_form" = true)
    (k_is_form : PySem.W.keepIn K (.ref f_is_form) = true)
    (a_Draft_kind_in : PySem.W.findIn K (.ref C_Draft) "kind_in" = some (some (.ref f_Draft_kind_in)))
    (i_Draft_kind_in : PySem.W.isFn K (.ref f_Draft_kind_in) = true)
    (l_Draft_kind_in : K.lookup f_Draft_kind_in = some ⟨oc_Draft_kind_in, od_Draft_kind_in, .func (PySem.W.fnOf "kind_in" "Draft.kind_in" (defArgs s_Draft_kind_in) (defBody s_Draft_kind_in) (defScope s_Draft_kind_in) .none kV_Draft_kind_in dc_Draft_kind_in pm_Draft_kind_in an_Draft_kind_in cd_Draft_kind_in ct_Draft_kind_in), sl_Draft_kind_in⟩)
    (c_Draft_kind_in : PySem.W.codeIn K cd_Draft_kind_in "Draft.kind_in" = true)
    (k_Draft_kind_in : PySem.W.keepIn K (.ref f_Draft_kind_in) = true)
    (a_Shape_units : PySem.W.findIn K (.ref C_Shape) "units" = some (some (.ref f_Shape_units)))
    (i_Shape_units : PySem.W.isFn K (.ref f_Shape_units) = true)
    (l_Shape_units : K.lookup f_Shape_units = some ⟨oc_Shape_units, od_Shape_units, .func (PySem.W.fnOf "units" "Shape.units" (defArgs s_Shape_units) (defBody s_Shape_units) (defScope s_Shape_units) .none kV_Shape_units dc_Shape_units pm_Shape_units an_Shape_units cd_Shape_units ct_Shape_units), sl_Shape_units⟩)
    (c_Shape_units : PySem.W.codeIn K cd_Shape_units "Shape.units" = true)
    (k_Shape_units : PySem.W.keepIn K (.ref f_Shape_units) = true)
    (a_Draft_init : PySem.W.findIn K (.ref C_Draft) "__init__" = some (some (.ref f_Draft_init)))
    (i_Draft_init : PySem.W.isFn K (.ref f_Draft_init) = true)
    (l_Draft_init : K.lookup f_Draft_init = some ⟨oc_Draft_init, od_Draft_init, .func (PySem.W.fnOf "__init__" "Draft.__init__" (defArgs s_Draft_init) (defBody s_Draft_init) (defScope s_Draft_init) .none kV_Draft_init dc_Draft_init pm_Draft_init an_Draft_init cd_Draft_init ct_Draft_init), sl_Draft_init⟩)
    (c_Draft_init : PySem.W.codeIn K cd_Draft_init "Draft.__init__" = true)
    (k_Draft_init : PySem.W.keepIn K (.ref f_Draft_init) = true)
    (a_Draft_end_shape : PySem.W.findIn K (.ref C_Draft) "end_shape" = some (some (.ref f_Draft_end_shape)))
    (i_Draft_end_shape : PySem.W.isFn K (.ref f_Draft_end_shape) = true)
    (l_Draft_end_shape : K.lookup f_Draft_end_shape = some ⟨oc_Draft_end_shape, od_Draft_end_shape, .func (PySem.W.fnOf "end_shape" "Draft.end_shape" (defArgs s_Draft_end_shape) (defBody s_Draft_end_shape) (defScope s_Draft_end_shape) .none kV_Draft_end_shape dc_Draft_end_shape pm_Draft_end_shape an_Draft_end_shape cd_Draft_end_shape ct_Draft_end_shape), sl_Draft_end_shape⟩)
    (c_Draft_end_shape : PySem.W.codeIn K cd_Draft_end_shape "Draft.end_shape" = true)
    (k_Draft_end_shape : PySem.W.keepIn K (.ref f_Draft_end_shape) = true)
    (a_Draft_take_shape : PySem.W.findIn K (.ref C_Draft) "take_shape" = some (some (.ref f_Draft_take_shape)))
    (i_Draft_take_shape : PySem.W.isFn K (.ref f_Draft_take_shape) = true)
    (l_Draft_take_shape : K.lookup f_Draft_take_shape = some ⟨oc_Draft_take_shape, od_Draft_take_shape, .func (PySem.W.fnOf "take_shape" "Draft.take_shape" (defArgs s_Draft_take_shape) (defBody s_Draft_take_shape) (defScope s_Draft_take_shape) .none kV_Draft_take_shape dc_Draft_take_shape pm_Draft_take_shape an_Draft_take_shape cd_Draft_take_shape ct_Draft_take_shape), sl_Draft_take_shape⟩)
    (c_Draft_take_shape : PySem.W.codeIn K cd_Draft_take_shape "Draft.take_shape" = true)
    (k_Draft_take_shape : PySem.W.keepIn K (.ref f_Draft_take_shape) = true)
    (a_Draft_take_field : PySem.W.findIn K (.ref C_Draft) "take_field" = some (some (.ref f_Draft_take_field)))
    (i_Draft_take_field : PySem.W.isFn K (.ref f_Draft_take_field) = true)
    (l_Draft_take_field : K.lookup f_Draft_take_field = some ⟨oc_Draft_take_field, od_Draft_take_field, .func (PySem.W.fnOf "take_field" "Draft.take_field" (defArgs s_Draft_take_field) (defBody s_Draft_take_field) (defScope s_Draft_take_field) .none kV_Draft_take_field dc_Draft_take_field pm_Draft_take_field an_Draft_take_field cd_Draft_take_field ct_Draft_take_field), sl_Draft_take_field⟩)
    (c_Draft_take_field : PySem.W.codeIn K cd_Draft_take_field "Draft.take_field" = true)
    (k_Draft_take_field : PySem.W.keepIn K (.ref f_Draft_take_field) = true)
    (a_read_shapes : PySem.W.nsIn K mainGlobals "read_shapes" = some (some (.ref f_read_shapes)))
    (l_read_shapes : K.lookup f_read_shapes = some ⟨oc_read_shapes, od_read_shapes, .func (PySem.W.fnOf "read_shapes" "read_shapes" (defArgs s_read_shapes) (defBody s_read_shapes) (defScope s_read_shapes) .none kV_read_shapes dc_read_shapes pm_read_shapes an_read_shapes cd_read_shapes ct_read_shapes), sl_read_shapes⟩)
    (c_read_shapes : PySem.W.codeIn K cd_read_shapes "read_shapes" = true)
    (k_read_shapes : PySem.W.keepIn K (.ref f_read_shapes) = true)
    (a_Num_spread : PySem.W.findIn K (.ref C_Num) "spread" = some (some (.ref f_Num_spread)))
    (i_Num_spread : PySem.W.isFn K (.ref f_Num_spread) = true)
    (l_Num_spread : K.lookup f_Num_spread = some ⟨oc_Num_spread, od_Num_spread, .func (PySem.W.fnOf "spread" "Num.spread" (defArgs s_Num_spread) (defBody s_Num_spread) (defScope s_Num_spread) .none kV_Num_spread dc_Num_spread pm_Num_spread an_Num_spread cd_Num_spread ct_Num_spread), sl_Num_spread⟩)
    (c_Num_spread : PySem.W.codeIn K cd_Num_spread "Num.spread" = true)
    (k_Num_spread : PySem.W.keepIn K (.ref f_Num_spread) = true)
    (a_Nested_spread : PySem.W.findIn K (.ref C_Nested) "spread" = some (some (.ref f_Nested_spread)))
    (i_Nested_spread : PySem.W.isFn K (.ref f_Nested_spread) = true)
    (l_Nested_spread : K.lookup f_Nested_spread = some ⟨oc_Nested_spread, od_Nested_spread, .func (PySem.W.fnOf "spread" "Nested.spread" (defArgs s_Nested_spread) (defBody s_Nested_spread) (defScope s_Nested_spread) .none kV_Nested_spread dc_Nested_spread pm_Nested_spread an_Nested_spread cd_Nested_spread ct_Nested_spread), sl_Nested_spread⟩)
    (c_Nested_spread : PySem.W.codeIn K cd_Nested_spread "Nested.spread" = true)
    (k_Nested_spread : PySem.W.keepIn K (.ref f_Nested_spread) = true)
    (a_Many_spread : PySem.W.findIn K (.ref C_Many) "spread" = some (some (.ref f_Many_spread)))
    (i_Many_spread : PySem.W.isFn K (.ref f_Many_spread) = true)
    (l_Many_spread : K.lookup f_Many_spread = some ⟨oc_Many_spread, od_Many_spread, .func (PySem.W.fnOf "spread" "Many.spread" (defArgs s_Many_spread) (defBody s_Many_spread) (defScope s_Many_spread) .none kV_Many_spread dc_Many_spread pm_Many_spread an_Many_spread cd_Many_spread ct_Many_spread), sl_Many_spread⟩)
    (c_Many_spread : PySem.W.codeIn K cd_Many_spread "Many.spread" = true)
    (k_Many_spread : PySem.W.keepIn K (.ref f_Many_spread) = true)
    (a_Pick_spread : PySem.W.findIn K (.ref C_Pick) "spread" = some (some (.ref f_Pick_spread)))
    (i_Pick_spread : PySem.W.isFn K (.ref f_Pick_spread) = true)
    (l_Pick_spread : K.lookup f_Pick_spread = some ⟨oc_Pick_spread, od_Pick_spread, .func (PySem.W.fnOf "spread" "Pick.spread" (defArgs s_Pick_spread) (defBody s_Pick_spread) (defScope s_Pick_spread) .none kV_Pick_spread dc_Pick_spread pm_Pick_spread an_Pick_spread cd_Pick_spread ct_Pick_spread), sl_Pick_spread⟩)
    (c_Pick_spread : PySem.W.codeIn K cd_Pick_spread "Pick.spread" = true)
    (k_Pick_spread : PySem.W.keepIn K (.ref f_Pick_spread) = true)
    (a_Shape_leaves : PySem.W.findIn K (.ref C_Shape) "leaves" = some (some (.ref f_Shape_leaves)))
    (i_Shape_leaves : PySem.W.isFn K (.ref f_Shape_leaves) = true)
    (l_Shape_leaves : K.lookup f_Shape_leaves = some ⟨oc_Shape_leaves, od_Shape_leaves, .func (PySem.W.fnOf "leaves" "Shape.leaves" (defArgs s_Shape_leaves) (defBody s_Shape_leaves) (defScope s_Shape_leaves) .none kV_Shape_leaves dc_Shape_leaves pm_Shape_leaves an_Shape_leaves cd_Shape_leaves ct_Shape_leaves), sl_Shape_leaves⟩)
    (c_Shape_leaves : PySem.W.codeIn K cd_Shape_leaves "Shape.leaves" = true)
    (k_Shape_leaves : PySem.W.keepIn K (.ref f_Shape_leaves) = true)
    (a_law_parted : PySem.W.nsIn K mainGlobals "_law_parted" = some (some (.ref f_law_parted)))
    (l_law_parted : K.lookup f_law_parted = some ⟨oc_law_parted, od_law_parted, .func (PySem.W.fnOf "_law_parted" "_law_parted" (defArgs s_law_parted) (defBody s_law_parted) (defScope s_law_parted) .none kV_law_parted dc_law_parted pm_law_parted an_law_parted cd_law_parted ct_law_parted), sl_law_parted⟩)
    (c_law_parted : PySem.W.codeIn K cd_law_parted "_law_parted" = true)
    (k_law_parted : PySem.W.keepIn K (.ref f_law_parted) = true)
    (a_law_meet : PySem.W.nsIn K mainGlobals "_law_meet" = some (some (.ref f_law_meet)))
    (l_law_meet : K.lookup f_law_meet = some ⟨oc_law_meet, od_law_meet, .func (PySem.W.fnOf "_law_meet" "_law_meet" (defArgs s_law_meet) (defBody s_law_meet) (defScope s_law_meet) .none kV_law_meet dc_law_meet pm_law_meet an_law_meet cd_law_meet ct_law_meet), sl_law_meet⟩)
    (c_law_meet : PySem.W.codeIn K cd_law_meet "_law_meet" = true)
    (k_law_meet : PySem.W.keepIn K (.ref f_law_meet) = true)
    (a_law_right : PySem.W.nsIn K mainGlobals "_law_right" = some (some (.ref f_law_right)))
    (l_law_right : K.lookup f_law_right = some ⟨oc_law_right, od_law_right, .func (PySem.W.fnOf "_law_right" "_law_right" (defArgs s_law_right) (defBody s_law_right) (defScope s_law_right) .none kV_law_right dc_law_right pm_law_right an_law_right cd_law_right ct_law_right), sl_law_right⟩)
    (c_law_right : PySem.W.codeIn K cd_law_right "_law_right" = true)
    (k_law_right : PySem.W.keepIn K (.ref f_law_right) = true)
    (a_law : PySem.W.nsIn K mainGlobals "law" = some (some (.ref f_law)))
    (l_law : K.lookup f_law = some ⟨oc_law, od_law, .func (PySem.W.fnOf "law" "law" (defArgs s_law) (defBody s_law) (defScope s_law) .none kV_law dc_law pm_law an_law cd_law ct_law), sl_law⟩)
    (c_law : PySem.W.codeIn K cd_law "law" = true)
    (k_law : PySem.W.keepIn K (.ref f_law) = true)
    (a_Num_depth : PySem.W.findIn K (.ref C_Num) "depth" = some (some (.ref f_Kind_depth)))
    (n_all : PySem.W.nsIn K mainGlobals "all" = some none)
    (n_enumerate : PySem.W.nsIn K mainGlobals "enumerate" = some none)
    (n_int : PySem.W.nsIn K mainGlobals "int" = some none)
    (n_isinstance : PySem.W.nsIn K mainGlobals "isinstance" = some none)
    (n_len : PySem.W.nsIn K mainGlobals "len" = some none)
    (n_list : PySem.W.nsIn K mainGlobals "list" = some none)
    (n_max : PySem.W.nsIn K mainGlobals "max" = some none)
    (n_min : PySem.W.nsIn K mainGlobals "min" = some none)
    (n_range : PySem.W.nsIn K mainGlobals "range" = some none)
    (n_set : PySem.W.nsIn K mainGlobals "set" = some none)
    (n_str : PySem.W.nsIn K mainGlobals "str" = some none)
    (n_sum : PySem.W.nsIn K mainGlobals "sum" = some none)
    (n_tuple : PySem.W.nsIn K mainGlobals "tuple" = some none)
    {t_DEEPEST : Tok} (q_DEEPEST : PySem.W.nsIn K mainGlobals "DEEPEST" = some (some (.int 4 t_DEEPEST)))
    {t_FIGURES : Tok} (q_FIGURES : PySem.W.nsIn K mainGlobals "FIGURES" = some (some (.str "0123456789" t_FIGURES)))
    {t_LETTERS : Tok} (q_LETTERS : PySem.W.nsIn K mainGlobals "LETTERS" = some (some (.str "abcdefghijklmnopqrstuvwxyz" t_LETTERS)))
    {t_LONGEST_NAME : Tok} (q_LONGEST_NAME : PySem.W.nsIn K mainGlobals "LONGEST_NAME" = some (some (.int 6 t_LONGEST_NAME)))
    {t_LONGEST_NUMBER : Tok} (q_LONGEST_NUMBER : PySem.W.nsIn K mainGlobals "LONGEST_NUMBER" = some (some (.int 10 t_LONGEST_NUMBER)))
    {t_MOST_CELLS : Tok} (q_MOST_CELLS : PySem.W.nsIn K mainGlobals "MOST_CELLS" = some (some (.int 64 t_MOST_CELLS)))
    {t_MOST_FIELDS : Tok} (q_MOST_FIELDS : PySem.W.nsIn K mainGlobals "MOST_FIELDS" = some (some (.int 6 t_MOST_FIELDS)))
    {t_MOST_SHAPES : Tok} (q_MOST_SHAPES : PySem.W.nsIn K mainGlobals "MOST_SHAPES" = some (some (.int 8 t_MOST_SHAPES)))
    {t_MOST_UNITS : Tok} (q_MOST_UNITS : PySem.W.nsIn K mainGlobals "MOST_UNITS" = some (some (.int 40 t_MOST_UNITS)))
    {TA_OWN_WORDS : Addr} (q_OWN_WORDS : PySem.W.nsIn K mainGlobals "OWN_WORDS" = some (some (.ref TA_OWN_WORDS)))
    {tk0_OWN_WORDS tk1_OWN_WORDS tk2_OWN_WORDS tk3_OWN_WORDS tk4_OWN_WORDS tk5_OWN_WORDS tk6_OWN_WORDS tk7_OWN_WORDS tk8_OWN_WORDS tk9_OWN_WORDS tk10_OWN_WORDS tk11_OWN_WORDS tk12_OWN_WORDS tk13_OWN_WORDS tk14_OWN_WORDS tk15_OWN_WORDS tk16_OWN_WORDS tk17_OWN_WORDS tk18_OWN_WORDS tk19_OWN_WORDS tk20_OWN_WORDS tk21_OWN_WORDS tk22_OWN_WORDS : Tok} {dT_OWN_WORDS : Option Addr} {nT_OWN_WORDS : Nat} {sT_OWN_WORDS : Array (Option Value)} (lt_OWN_WORDS : K.lookup TA_OWN_WORDS = some ⟨.type "tuple", dT_OWN_WORDS, .seq #[.str "shape" tk0_OWN_WORDS, .str "num" tk1_OWN_WORDS, .str "row" tk2_OWN_WORDS, .str "pick" tk3_OWN_WORDS, .str "tag" tk4_OWN_WORDS, .str "room" tk5_OWN_WORDS, .str "things" tk6_OWN_WORDS, .str "part" tk7_OWN_WORDS, .str "tags" tk8_OWN_WORDS, .str "put" tk9_OWN_WORDS, .str "take" tk10_OWN_WORDS, .str "many" tk11_OWN_WORDS, .str "look" tk12_OWN_WORDS, .str "which" tk13_OWN_WORDS, .str "store" tk14_OWN_WORDS, .str "choose" tk15_OWN_WORDS, .str "copy" tk16_OWN_WORDS, .str "each" tk17_OWN_WORDS, .str "span" tk18_OWN_WORDS, .str "if" tk19_OWN_WORDS, .str "else" tk20_OWN_WORDS, .str "end" tk21_OWN_WORDS, .str "out" tk22_OWN_WORDS] nT_OWN_WORDS, sT_OWN_WORDS⟩)
    : ∃ fd : FuncData, (∀ (s : Shared) (v : Value), BindsTo s fd ⟨[v], []⟩ [("_law_script", v)]) ∧ ∀ base : Heap, K.In base → base.Ns mainGlobals mg → FnOk l.prog w K mg base CX0 128 fa fd ["_law_script"] (spLaw K) := by
  have e := hfa.symm.trans (PySem.W.mg_of X G a_law)
  cases e
  have F_law_cell := fun_mk (st := s_law_cell) l_law_cell c_law_cell k_law_cell
  have F_law_box := fun_mk (st := s_law_box) l_law_box c_law_box k_law_box
  have F_law_take := fun_mk (st := s_law_take) l_law_take c_law_take k_law_take
  have F_are_signs := fun_mk (st := s_are_signs) l_are_signs c_are_signs k_are_signs
  have F_is_name := fun_mk (st := s_is_name) l_is_name c_is_name k_is_name
  have F_number_in := fun_mk (st := s_number_in) l_number_in c_number_in k_number_in
  have F_law_joined := fun_mk (st := s_law_joined) l_law_joined c_law_joined k_law_joined
  have F_law_size := fun_mk (st := s_law_size) l_law_size c_law_size k_law_size
  have F_law_depth := fun_mk (st := s_law_depth) l_law_depth c_law_depth k_law_depth
  have F_law_units := fun_mk (st := s_law_units) l_law_units c_law_units k_law_units
  have F_law_fits := fun_mk (st := s_law_fits) l_law_fits c_law_fits k_law_fits
  have F_law_kind_text := fun_mk (st := s_law_kind_text) l_law_kind_text c_law_kind_text k_law_kind_text
  have F_law_text := fun_mk (st := s_law_text) l_law_text c_law_text k_law_text
  have F_law_names := fun_mk (st := s_law_names) l_law_names c_law_names k_law_names
  have F_law_kind := fun_mk (st := s_law_kind) l_law_kind c_law_kind k_law_kind
  have F_law_shapes := fun_mk (st := s_law_shapes) l_law_shapes c_law_shapes k_law_shapes
  have F_joined := fun_mk (st := s_joined) l_joined c_joined k_joined
  have F_Num_size := fun_mk (st := s_Num_size) l_Num_size c_Num_size k_Num_size
  have F_Nested_size := fun_mk (st := s_Nested_size) l_Nested_size c_Nested_size k_Nested_size
  have F_Many_size := fun_mk (st := s_Many_size) l_Many_size c_Many_size k_Many_size
  have F_Pick_size := fun_mk (st := s_Pick_size) l_Pick_size c_Pick_size k_Pick_size
  have F_Pick_chosen_size := fun_mk (st := s_Pick_chosen_size) l_Pick_chosen_size c_Pick_chosen_size k_Pick_chosen_size
  have F_Shape_size := fun_mk (st := s_Shape_size) l_Shape_size c_Shape_size k_Shape_size
  have F_Kind_depth := fun_mk (st := s_Kind_depth) l_Kind_depth c_Kind_depth k_Kind_depth
  have F_Nested_depth := fun_mk (st := s_Nested_depth) l_Nested_depth c_Nested_depth k_Nested_depth
  have F_Many_depth := fun_mk (st := s_Many_depth) l_Many_depth c_Many_depth k_Many_depth
  have F_Pick_depth := fun_mk (st := s_Pick_depth) l_Pick_depth c_Pick_depth k_Pick_depth
  have F_Shape_depth := fun_mk (st := s_Shape_depth) l_Shape_depth c_Shape_depth k_Shape_depth
  have F_Num_units := fun_mk (st := s_Num_units) l_Num_units c_Num_units k_Num_units
  have F_Nested_units := fun_mk (st := s_Nested_units) l_Nested_units c_Nested_units k_Nested_units
  have F_Many_units := fun_mk (st := s_Many_units) l_Many_units c_Many_units k_Many_units
  have F_Pick_units := fun_mk (st := s_Pick_units) l_Pick_units c_Pick_units k_Pick_units
  have F_Num_init := fun_mk (st := s_Num_init) l_Num_init c_Num_init k_Num_init
  have F_Nested_init := fun_mk (st := s_Nested_init) l_Nested_init c_Nested_init k_Nested_init
  have F_Many_init := fun_mk (st := s_Many_init) l_Many_init c_Many_init k_Many_init
  have F_Pick_init := fun_mk (st := s_Pick_init) l_Pick_init c_Pick_init k_Pick_init
  have F_Shapes_init := fun_mk (st := s_Shapes_init) l_Shapes_init c_Shapes_init k_Shapes_init
  have F_Shape_init := fun_mk (st := s_Shape_init) l_Shape_init c_Shape_init k_Shape_init
  have F_is_form := fun_mk (st := s_is_form) l_is_form c_is_form k_is_form
  have F_Draft_kind_in := fun_mk (st := s_Draft_kind_in) l_Draft_kind_in c_Draft_kind_in k_Draft_kind_in
  have F_Shape_units := fun_mk (st := s_Shape_units) l_Shape_units c_Shape_units k_Shape_units
  have F_Draft_init := fun_mk (st := s_Draft_init) l_Draft_init c_Draft_init k_Draft_init
  have F_Draft_end_shape := fun_mk (st := s_Draft_end_shape) l_Draft_end_shape c_Draft_end_shape k_Draft_end_shape
  have F_Draft_take_shape := fun_mk (st := s_Draft_take_shape) l_Draft_take_shape c_Draft_take_shape k_Draft_take_shape
  have F_Draft_take_field := fun_mk (st := s_Draft_take_field) l_Draft_take_field c_Draft_take_field k_Draft_take_field
  have F_read_shapes := fun_mk (st := s_read_shapes) l_read_shapes c_read_shapes k_read_shapes
  have F_Num_spread := fun_mk (st := s_Num_spread) l_Num_spread c_Num_spread k_Num_spread
  have F_Nested_spread := fun_mk (st := s_Nested_spread) l_Nested_spread c_Nested_spread k_Nested_spread
  have F_Many_spread := fun_mk (st := s_Many_spread) l_Many_spread c_Many_spread k_Many_spread
  have F_Pick_spread := fun_mk (st := s_Pick_spread) l_Pick_spread c_Pick_spread k_Pick_spread
  have F_Shape_leaves := fun_mk (st := s_Shape_leaves) l_Shape_leaves c_Shape_leaves k_Shape_leaves
  have F_law_parted := fun_mk (st := s_law_parted) l_law_parted c_law_parted k_law_parted
  have F_law_meet := fun_mk (st := s_law_meet) l_law_meet c_law_meet k_law_meet
  have F_law_right := fun_mk (st := s_law_right) l_law_right c_law_right k_law_right
  have F_law := fun_mk (st := s_law) l_law c_law k_law
  have c_DEEPEST : ∃ t, mg "DEEPEST" = some (.int 4 t) := ⟨_, PySem.W.mg_of X G q_DEEPEST⟩
  have c_FIGURES : ∃ t, mg "FIGURES" = some (.str "0123456789" t) := ⟨_, PySem.W.mg_of X G q_FIGURES⟩
  have c_LETTERS : ∃ t, mg "LETTERS" = some (.str "abcdefghijklmnopqrstuvwxyz" t) := ⟨_, PySem.W.mg_of X G q_LETTERS⟩
  have c_LONGEST_NAME : ∃ t, mg "LONGEST_NAME" = some (.int 6 t) := ⟨_, PySem.W.mg_of X G q_LONGEST_NAME⟩
  have c_LONGEST_NUMBER : ∃ t, mg "LONGEST_NUMBER" = some (.int 10 t) := ⟨_, PySem.W.mg_of X G q_LONGEST_NUMBER⟩
  have c_MOST_CELLS : ∃ t, mg "MOST_CELLS" = some (.int 64 t) := ⟨_, PySem.W.mg_of X G q_MOST_CELLS⟩
  have c_MOST_FIELDS : ∃ t, mg "MOST_FIELDS" = some (.int 6 t) := ⟨_, PySem.W.mg_of X G q_MOST_FIELDS⟩
  have c_MOST_SHAPES : ∃ t, mg "MOST_SHAPES" = some (.int 8 t) := ⟨_, PySem.W.mg_of X G q_MOST_SHAPES⟩
  have c_MOST_UNITS : ∃ t, mg "MOST_UNITS" = some (.int 40 t) := ⟨_, PySem.W.mg_of X G q_MOST_UNITS⟩
  have c_OWN_WORDS : mg "OWN_WORDS" = some (.ref TA_OWN_WORDS) := PySem.W.mg_of X G q_OWN_WORDS
  have T_OWN_WORDS : ∀ H, SqT K H TA_OWN_WORDS [V.str "shape", V.str "num", V.str "row", V.str "pick", V.str "tag", V.str "room", V.str "things", V.str "part", V.str "tags", V.str "put", V.str "take", V.str "many", V.str "look", V.str "which", V.str "store", V.str "choose", V.str "copy", V.str "each", V.str "span", V.str "if", V.str "else", V.str "end", V.str "out"] := fun H => .inr ⟨_, _, _, lt_OWN_WORDS, rfl, rfl, (show (23 : Nat) ≤ sizeLine by decide), (.cons ⟨_, rfl⟩ (.cons ⟨_, rfl⟩ (.cons ⟨_, rfl⟩ (.cons ⟨_, rfl⟩ (.cons ⟨_, rfl⟩ (.cons ⟨_, rfl⟩ (.cons ⟨_, rfl⟩ (.cons ⟨_, rfl⟩ (.cons ⟨_, rfl⟩ (.cons ⟨_, rfl⟩ (.cons ⟨_, rfl⟩ (.cons ⟨_, rfl⟩ (.cons ⟨_, rfl⟩ (.cons ⟨_, rfl⟩ (.cons ⟨_, rfl⟩ (.cons ⟨_, rfl⟩ (.cons ⟨_, rfl⟩ (.cons ⟨_, rfl⟩ (.cons ⟨_, rfl⟩ (.cons ⟨_, rfl⟩ (.cons ⟨_, rfl⟩ (.cons ⟨_, rfl⟩ (.cons ⟨_, rfl⟩ .nil)))))))))))))))))))))))⟩
  have z_all : mg "all" = none := PySem.W.mg_none_of X G n_all
  have z_enumerate : mg "enumerate" = none := PySem.W.mg_none_of X G n_enumerate
  have z_int : mg "int" = none := PySem.W.mg_none_of X G n_int
  have z_isinstance : mg "isinstance" = none := PySem.W.mg_none_of X G n_isinstance
  have z_len : mg "len" = none := PySem.W.mg_none_of X G n_len
  have z_list : mg "list" = none := PySem.W.mg_none_of X G n_list
  have z_max : mg "max" = none := PySem.W.mg_none_of X G n_max
  have z_min : mg "min" = none := PySem.W.mg_none_of X G n_min
  have z_range : mg "range" = none := PySem.W.mg_none_of X G n_range
  have z_set : mg "set" = none := PySem.W.mg_none_of X G n_set
  have z_str : mg "str" = none := PySem.W.mg_none_of X G n_str
  have z_sum : mg "sum" = none := PySem.W.mg_none_of X G n_sum
  have z_tuple : mg "tuple" = none := PySem.W.mg_none_of X G n_tuple
  have K_Draft : Cls K C_Draft := ⟨pg_Draft, hd_Draft, po_Draft, sa_Draft⟩
  have K_Kind : Cls K C_Kind := ⟨pg_Kind, hd_Kind, po_Kind, sa_Kind⟩
  have K_Many : Cls K C_Many := ⟨pg_Many, hd_Many, po_Many, sa_Many⟩
  have K_Nested : Cls K C_Nested := ⟨pg_Nested, hd_Nested, po_Nested, sa_Nested⟩
  have K_Num : Cls K C_Num := ⟨pg_Num, hd_Num, po_Num, sa_Num⟩
  have K_Pick : Cls K C_Pick := ⟨pg_Pick, hd_Pick, po_Pick, sa_Pick⟩
  have K_Shape : Cls K C_Shape := ⟨pg_Shape, hd_Shape, po_Shape, sa_Shape⟩
  have K_Shapes : Cls K C_Shapes := ⟨pg_Shapes, hd_Shapes, po_Shapes, sa_Shapes⟩
  have W_Draft_kind_in : MethF K C_Draft "kind_in" _ _ ["self", "line", "words"] := ⟨K_Draft, ⟨a_Draft_kind_in, i_Draft_kind_in, k_Draft_kind_in⟩, F_Draft_kind_in.binds (ps := ["self", "line", "words"]) fun _ _ _ _ _ _ us hl => match us, hl with | [_, _, _], _ => rfl⟩
  have W_Many_depth : MethF K C_Many "depth" _ _ ["self"] := ⟨K_Many, ⟨a_Many_depth, i_Many_depth, k_Many_depth⟩, F_Many_depth.binds (ps := ["self"]) fun _ _ _ _ _ _ us hl => match us, hl with | [_], _ => rfl⟩
  have W_Many_size : MethF K C_Many "size" _ _ ["self"] := ⟨K_Many, ⟨a_Many_size, i_Many_size, k_Many_size⟩, F_Many_size.binds (ps := ["self"]) fun _ _ _ _ _ _ us hl => match us, hl with | [_], _ => rfl⟩
  have W_Many_spread : MethF K C_Many "spread" _ _ ["self", "path", "unit", "offset", "holds"] := ⟨K_Many, ⟨a_Many_spread, i_Many_spread, k_Many_spread⟩, F_Many_spread.binds (ps := ["self", "path", "unit", "offset", "holds"]) fun _ _ _ _ _ _ us hl => match us, hl with | [_, _, _, _, _], _ => rfl⟩
  have W_Many_units : MethF K C_Many "units" _ _ ["self", "path"] := ⟨K_Many, ⟨a_Many_units, i_Many_units, k_Many_units⟩, F_Many_units.binds (ps := ["self", "path"]) fun _ _ _ _ _ _ us hl => match us, hl with | [_, _], _ => rfl⟩
  have W_Nested_depth : MethF K C_Nested "depth" _ _ ["self"] := ⟨K_Nested, ⟨a_Nested_depth, i_Nested_depth, k_Nested_depth⟩, F_Nested_depth.binds (ps := ["self"]) fun _ _ _ _ _ _ us hl => match us, hl with | [_], _ => rfl⟩
  have W_Nested_size : MethF K C_Nested "size" _ _ ["self"] := ⟨K_Nested, ⟨a_Nested_size, i_Nested_size, k_Nested_size⟩, F_Nested_size.binds (ps := ["self"]) fun _ _ _ _ _ _ us hl => match us, hl with | [_], _ => rfl⟩
  have W_Nested_spread : MethF K C_Nested "spread" _ _ ["self", "path", "unit", "offset", "holds"] := ⟨K_Nested, ⟨a_Nested_spread, i_Nested_spread, k_Nested_spread⟩, F_Nested_spread.binds (ps := ["self", "path", "unit", "offset", "holds"]) fun _ _ _ _ _ _ us hl => match us, hl with | [_, _, _, _, _], _ => rfl⟩
  have W_Nested_units : MethF K C_Nested "units" _ _ ["self", "path"] := ⟨K_Nested, ⟨a_Nested_units, i_Nested_units, k_Nested_units⟩, F_Nested_units.binds (ps := ["self", "path"]) fun _ _ _ _ _ _ us hl => match us, hl with | [_, _], _ => rfl⟩
  have W_Num_depth : MethF K C_Num "depth" _ _ ["self"] := ⟨K_Num, ⟨a_Num_depth, i_Kind_depth, k_Kind_depth⟩, F_Kind_depth.binds (ps := ["self"]) fun _ _ _ _ _ _ us hl => match us, hl with | [_], _ => rfl⟩
  have W_Num_size : MethF K C_Num "size" _ _ ["self"] := ⟨K_Num, ⟨a_Num_size, i_Num_size, k_Num_size⟩, F_Num_size.binds (ps := ["self"]) fun _ _ _ _ _ _ us hl => match us, hl with | [_], _ => rfl⟩
  have W_Num_spread : MethF K C_Num "spread" _ _ ["self", "path", "unit", "offset", "holds"] := ⟨K_Num, ⟨a_Num_spread, i_Num_spread, k_Num_spread⟩, F_Num_spread.binds (ps := ["self", "path", "unit", "offset", "holds"]) fun _ _ _ _ _ _ us hl => match us, hl with | [_, _, _, _, _], _ => rfl⟩
  have W_Num_units : MethF K C_Num "units" _ _ ["self", "path"] := ⟨K_Num, ⟨a_Num_units, i_Num_units, k_Num_units⟩, F_Num_units.binds (ps := ["self", "path"]) fun _ _ _ _ _ _ us hl => match us, hl with | [_, _], _ => rfl⟩
  have W_Pick_chosen_size : MethF K C_Pick "chosen_size" _ _ ["self"] := ⟨K_Pick, ⟨a_Pick_chosen_size, i_Pick_chosen_size, k_Pick_chosen_size⟩, F_Pick_chosen_size.binds (ps := ["self"]) fun _ _ _ _ _ _ us hl => match us, hl with | [_], _ => rfl⟩
  have W_Pick_depth : MethF K C_Pick "depth" _ _ ["self"] := ⟨K_Pick, ⟨a_Pick_depth, i_Pick_depth, k_Pick_depth⟩, F_Pick_depth.binds (ps := ["self"]) fun _ _ _ _ _ _ us hl => match us, hl with | [_], _ => rfl⟩
  have W_Pick_size : MethF K C_Pick "size" _ _ ["self"] := ⟨K_Pick, ⟨a_Pick_size, i_Pick_size, k_Pick_size⟩, F_Pick_size.binds (ps := ["self"]) fun _ _ _ _ _ _ us hl => match us, hl with | [_], _ => rfl⟩
  have W_Pick_spread : MethF K C_Pick "spread" _ _ ["self", "path", "unit", "offset", "holds"] := ⟨K_Pick, ⟨a_Pick_spread, i_Pick_spread, k_Pick_spread⟩, F_Pick_spread.binds (ps := ["self", "path", "unit", "offset", "holds"]) fun _ _ _ _ _ _ us hl => match us, hl with | [_, _, _, _, _], _ => rfl⟩
  have W_Pick_units : MethF K C_Pick "units" _ _ ["self", "path"] := ⟨K_Pick, ⟨a_Pick_units, i_Pick_units, k_Pick_units⟩, F_Pick_units.binds (ps := ["self", "path"]) fun _ _ _ _ _ _ us hl => match us, hl with | [_, _], _ => rfl⟩
  have W_Shape_depth : MethF K C_Shape "depth" _ _ ["self"] := ⟨K_Shape, ⟨a_Shape_depth, i_Shape_depth, k_Shape_depth⟩, F_Shape_depth.binds (ps := ["self"]) fun _ _ _ _ _ _ us hl => match us, hl with | [_], _ => rfl⟩
  have W_Shape_size : MethF K C_Shape "size" _ _ ["self"] := ⟨K_Shape, ⟨a_Shape_size, i_Shape_size, k_Shape_size⟩, F_Shape_size.binds (ps := ["self"]) fun _ _ _ _ _ _ us hl => match us, hl with | [_], _ => rfl⟩
  have W_is_form : SelfD K mg _ _ "is_form" ["words"] := ⟨PySem.W.mg_of X G a_is_form, k_is_form, F_is_form.binds (ps := ["words"]) fun _ _ _ _ _ _ us hl => match us, hl with | [_], _ => rfl⟩
  have W_law_depth : SelfD K mg _ _ "_law_depth" ["_law_kind_here", "_law_shapes_here"] := ⟨PySem.W.mg_of X G a_law_depth, k_law_depth, F_law_depth.binds (ps := ["_law_kind_here", "_law_shapes_here"]) fun _ _ _ _ _ _ us hl => match us, hl with | [_, _], _ => rfl⟩
  have W_law_kind_text : SelfD K mg _ _ "_law_kind_text" ["_law_kind_here", "_law_shapes_here"] := ⟨PySem.W.mg_of X G a_law_kind_text, k_law_kind_text, F_law_kind_text.binds (ps := ["_law_kind_here", "_law_shapes_here"]) fun _ _ _ _ _ _ us hl => match us, hl with | [_, _], _ => rfl⟩
  have W_law_size : SelfD K mg _ _ "_law_size" ["_law_kind_here", "_law_shapes_here"] := ⟨PySem.W.mg_of X G a_law_size, k_law_size, F_law_size.binds (ps := ["_law_kind_here", "_law_shapes_here"]) fun _ _ _ _ _ _ us hl => match us, hl with | [_, _], _ => rfl⟩
  have W_law_units : SelfD K mg _ _ "_law_units" ["_law_kind_here", "_law_shapes_here", "_law_path"] := ⟨PySem.W.mg_of X G a_law_units, k_law_units, F_law_units.binds (ps := ["_law_kind_here", "_law_shapes_here", "_law_path"]) fun _ _ _ _ _ _ us hl => match us, hl with | [_, _, _], _ => rfl⟩
  have A_Draft_begun : NoAttr K C_Draft "begun" := nA_Draft_begun
  have A_Draft_fields : NoAttr K C_Draft "fields" := nA_Draft_fields
  have A_Draft_known : NoAttr K C_Draft "known" := nA_Draft_known
  have A_Many_count : NoAttr K C_Many "count" := nA_Many_count
  have A_Many_kind : NoAttr K C_Many "kind" := nA_Many_kind
  have A_Nested_shape : NoAttr K C_Nested "shape" := nA_Nested_shape
  have A_Num_width : NoAttr K C_Num "width" := nA_Num_width
  have A_Pick_shapes : NoAttr K C_Pick "shapes" := nA_Pick_shapes
  have A_Shape_fields : NoAttr K C_Shape "fields" := nA_Shape_fields
  have A_Shape_name : NoAttr K C_Shape "name" := nA_Shape_name
  have A_Shapes_shapes : NoAttr K C_Shapes "shapes" := nA_Shapes_shapes
  refine ⟨PySem.W.fnOf "law" "law" (defArgs s_law) (defBody s_law) (defScope s_law) .none kV_law dc_law pm_law an_law cd_law ct_law, fun s v => .of_eq rfl, fun base _ _ => ?_⟩
  have D_law_cell : Dn l.prog w K mg base CX0 1 "_law_cell" ["_law_script", "_law_k"] (spCell K) := ⟨⟨_, _, ok_cell F_law_cell z_len, PySem.W.mg_of X G a_law_cell, k_law_cell, F_law_cell.binds (ps := ["_law_script", "_law_k"]) fun _ _ _ _ _ _ us hl => match us, hl with | [_, _], _ => rfl⟩⟩
  have D_law_box : Dn l.prog w K mg base CX0 1 "_law_box" ["_law_cell_here"] spBegun := ⟨⟨_, _, ok_box F_law_box z_max, PySem.W.mg_of X G a_law_box, k_law_box, F_law_box.binds (ps := ["_law_cell_here"]) fun _ _ _ _ _ _ us hl => match us, hl with | [_], _ => rfl⟩⟩
  have D_law_take : Dn l.prog w K mg base CX0 1 "_law_take" ["_law_box_here", "_law_many"] spDraw := ⟨⟨_, _, ok_take F_law_take, PySem.W.mg_of X G a_law_take, k_law_take, F_law_take.binds (ps := ["_law_box_here", "_law_many"]) fun _ _ _ _ _ _ us hl => match us, hl with | [_, _], _ => rfl⟩⟩
  have D_are_signs : Dn l.prog w K mg base CX0 1 "are_signs" ["text", "signs"] spAre := ⟨⟨_, _, ok_are F_are_signs, PySem.W.mg_of X G a_are_signs, k_are_signs, F_are_signs.binds (ps := ["text", "signs"]) fun _ _ _ _ _ _ us hl => match us, hl with | [_, _], _ => rfl⟩⟩
  have D_is_name : Dn l.prog w K mg base CX0 2 "is_name" ["thing"] (spIsName K) := ⟨⟨_, _, ok_isName F_is_name z_isinstance z_str z_len c_LONGEST_NAME c_LETTERS c_OWN_WORDS T_OWN_WORDS D_are_signs, PySem.W.mg_of X G a_is_name, k_is_name, F_is_name.binds (ps := ["thing"]) fun _ _ _ _ _ _ us hl => match us, hl with | [_], _ => rfl⟩⟩
  have D_number_in : Dn l.prog w K mg base CX0 2 "number_in" ["text", "low", "high"] (spNumIn K) := ⟨⟨_, _, ok_numIn F_number_in z_isinstance z_str z_int z_len c_LONGEST_NUMBER c_FIGURES D_are_signs, PySem.W.mg_of X G a_number_in, k_number_in, F_number_in.binds (ps := ["text", "low", "high"]) fun _ _ _ _ _ _ us hl => match us, hl with | [_, _, _], _ => rfl⟩⟩
  have D_law_joined : Dn l.prog w K mg base CX0 1 "_law_joined" ["_law_path", "_law_step"] spLJ := ⟨⟨_, _, ok_joined F_law_joined z_int, PySem.W.mg_of X G a_law_joined, k_law_joined, F_law_joined.binds (ps := ["_law_path", "_law_step"]) fun _ _ _ _ _ _ us hl => match us, hl with | [_, _], _ => rfl⟩⟩
  have D_law_size : Dn l.prog w K mg base CX0 25 "_law_size" ["_law_kind_here", "_law_shapes_here"] (spSize K 24) := ⟨⟨_, _, ok_size F_law_size W_law_size z_max z_sum, PySem.W.mg_of X G a_law_size, k_law_size, F_law_size.binds (ps := ["_law_kind_here", "_law_shapes_here"]) fun _ _ _ _ _ _ us hl => match us, hl with | [_, _], _ => rfl⟩⟩
  have D_law_depth : Dn l.prog w K mg base CX0 25 "_law_depth" ["_law_kind_here", "_law_shapes_here"] (spDepth K 24) := ⟨⟨_, _, ok_depth F_law_depth W_law_depth z_max, PySem.W.mg_of X G a_law_depth, k_law_depth, F_law_depth.binds (ps := ["_law_kind_here", "_law_shapes_here"]) fun _ _ _ _ _ _ us hl => match us, hl with | [_, _], _ => rfl⟩⟩
  have D_law_units : Dn l.prog w K mg base CX0 50 "_law_units" ["_law_kind_here", "_law_shapes_here", "_law_path"] (spUnits K 24) := ⟨⟨_, _, ok_units F_law_units W_law_units z_range z_str D_law_joined D_law_size, PySem.W.mg_of X G a_law_units, k_law_units, F_law_units.binds (ps := ["_law_kind_here", "_law_shapes_here", "_law_path"]) fun _ _ _ _ _ _ us hl => match us, hl with | [_, _, _], _ => rfl⟩⟩
  have D_law_fits : Dn l.prog w K mg base CX0 51 "_law_fits" ["_law_shapes_here"] (spFits K) := ⟨⟨_, _, ok_fits F_law_fits z_len D_law_size D_law_units D_law_depth, PySem.W.mg_of X G a_law_fits, k_law_fits, F_law_fits.binds (ps := ["_law_shapes_here"]) fun _ _ _ _ _ _ us hl => match us, hl with | [_], _ => rfl⟩⟩
  have D_law_kind_text : Dn l.prog w K mg base CX0 25 "_law_kind_text" ["_law_kind_here", "_law_shapes_here"] (spKText K 24) := ⟨⟨_, _, ok_ktext F_law_kind_text W_law_kind_text z_str, PySem.W.mg_of X G a_law_kind_text, k_law_kind_text, F_law_kind_text.binds (ps := ["_law_kind_here", "_law_shapes_here"]) fun _ _ _ _ _ _ us hl => match us, hl with | [_, _], _ => rfl⟩⟩
  have D_law_text : Dn l.prog w K mg base CX0 26 "_law_text" ["_law_shapes_here"] (spText K) := ⟨⟨_, _, ok_text F_law_text D_law_kind_text, PySem.W.mg_of X G a_law_text, k_law_text, F_law_text.binds (ps := ["_law_shapes_here"]) fun _ _ _ _ _ _ us hl => match us, hl with | [_], _ => rfl⟩⟩
  have D_law_names : Dn l.prog w K mg base CX0 2 "_law_names" ["_law_box_here"] spNames := ⟨⟨_, _, ok_names F_law_names z_range D_law_take, PySem.W.mg_of X G a_law_names, k_law_names, F_law_names.binds (ps := ["_law_box_here"]) fun _ _ _ _ _ _ us hl => match us, hl with | [_], _ => rfl⟩⟩
  have D_law_kind : Dn l.prog w K mg base CX0 2 "_law_kind" ["_law_box_here", "_law_known"] spKind := ⟨⟨_, _, ok_kind F_law_kind z_int z_min z_range D_law_take, PySem.W.mg_of X G a_law_kind, k_law_kind, F_law_kind.binds (ps := ["_law_box_here", "_law_known"]) fun _ _ _ _ _ _ us hl => match us, hl with | [_, _], _ => rfl⟩⟩
  have D_law_shapes : Dn l.prog w K mg base CX0 52 "_law_shapes" ["_law_box_here", "_law_most"] (spShapes K) := ⟨⟨_, _, ok_shapes F_law_shapes z_range D_law_take D_law_names D_law_kind D_law_fits, PySem.W.mg_of X G a_law_shapes, k_law_shapes, F_law_shapes.binds (ps := ["_law_box_here", "_law_most"]) fun _ _ _ _ _ _ us hl => match us, hl with | [_, _], _ => rfl⟩⟩
  have D_joined : Dn l.prog w K mg base CX0 1 "joined" ["path", "step"] spJoined := ⟨⟨_, _, ok_pjoined F_joined, PySem.W.mg_of X G a_joined, k_joined, F_joined.binds (ps := ["path", "step"]) fun _ _ _ _ _ _ us hl => match us, hl with | [_, _], _ => rfl⟩⟩
  have N_Num_size : Nn l.prog w K mg base CX0 99 C_Num "size" ["self"] (spKS ⟨C_Num, C_Nested, C_Many, C_Pick, C_Shape⟩ 24 isNumK) := ⟨K_Num, ⟨_, _, ⟨a_Num_size, i_Num_size, k_Num_size⟩, ok_Num_size F_Num_size F_Nested_size F_Many_size F_Pick_size F_Pick_chosen_size F_Shape_size W_Num_size W_Nested_size W_Many_size W_Pick_size W_Pick_chosen_size W_Shape_size A_Num_width A_Nested_shape A_Many_count A_Many_kind A_Pick_shapes A_Shape_fields z_max z_sum, F_Num_size.binds (ps := ["self"]) fun _ _ _ _ _ _ us hl => match us, hl with | [_], _ => rfl⟩⟩
  have N_Nested_size : Nn l.prog w K mg base CX0 99 C_Nested "size" ["self"] (spKS ⟨C_Num, C_Nested, C_Many, C_Pick, C_Shape⟩ 24 isShpK) := ⟨K_Nested, ⟨_, _, ⟨a_Nested_size, i_Nested_size, k_Nested_size⟩, ok_Nested_size F_Num_size F_Nested_size F_Many_size F_Pick_size F_Pick_chosen_size F_Shape_size W_Num_size W_Nested_size W_Many_size W_Pick_size W_Pick_chosen_size W_Shape_size A_Num_width A_Nested_shape A_Many_count A_Many_kind A_Pick_shapes A_Shape_fields z_max z_sum, F_Nested_size.binds (ps := ["self"]) fun _ _ _ _ _ _ us hl => match us, hl with | [_], _ => rfl⟩⟩
  have N_Many_size : Nn l.prog w K mg base CX0 99 C_Many "size" ["self"] (spKS ⟨C_Num, C_Nested, C_Many, C_Pick, C_Shape⟩ 24 isRowK) := ⟨K_Many, ⟨_, _, ⟨a_Many_size, i_Many_size, k_Many_size⟩, ok_Many_size F_Num_size F_Nested_size F_Many_size F_Pick_size F_Pick_chosen_size F_Shape_size W_Num_size W_Nested_size W_Many_size W_Pick_size W_Pick_chosen_size W_Shape_size A_Num_width A_Nested_shape A_Many_count A_Many_kind A_Pick_shapes A_Shape_fields z_max z_sum, F_Many_size.binds (ps := ["self"]) fun _ _ _ _ _ _ us hl => match us, hl with | [_], _ => rfl⟩⟩
  have N_Pick_size : Nn l.prog w K mg base CX0 99 C_Pick "size" ["self"] (spKS ⟨C_Num, C_Nested, C_Many, C_Pick, C_Shape⟩ 24 isPickK) := ⟨K_Pick, ⟨_, _, ⟨a_Pick_size, i_Pick_size, k_Pick_size⟩, ok_Pick_size F_Num_size F_Nested_size F_Many_size F_Pick_size F_Pick_chosen_size F_Shape_size W_Num_size W_Nested_size W_Many_size W_Pick_size W_Pick_chosen_size W_Shape_size A_Num_width A_Nested_shape A_Many_count A_Many_kind A_Pick_shapes A_Shape_fields z_max z_sum, F_Pick_size.binds (ps := ["self"]) fun _ _ _ _ _ _ us hl => match us, hl with | [_], _ => rfl⟩⟩
  have N_Pick_chosen_size : Nn l.prog w K mg base CX0 98 C_Pick "chosen_size" ["self"] (spCS ⟨C_Num, C_Nested, C_Many, C_Pick, C_Shape⟩ 24) := ⟨K_Pick, ⟨_, _, ⟨a_Pick_chosen_size, i_Pick_chosen_size, k_Pick_chosen_size⟩, ok_Pick_chosen_size F_Num_size F_Nested_size F_Many_size F_Pick_size F_Pick_chosen_size F_Shape_size W_Num_size W_Nested_size W_Many_size W_Pick_size W_Pick_chosen_size W_Shape_size A_Num_width A_Nested_shape A_Many_count A_Many_kind A_Pick_shapes A_Shape_fields z_max z_sum, F_Pick_chosen_size.binds (ps := ["self"]) fun _ _ _ _ _ _ us hl => match us, hl with | [_], _ => rfl⟩⟩
  have N_Shape_size : Nn l.prog w K mg base CX0 97 C_Shape "size" ["self"] (spSS ⟨C_Num, C_Nested, C_Many, C_Pick, C_Shape⟩ 24) := ⟨K_Shape, ⟨_, _, ⟨a_Shape_size, i_Shape_size, k_Shape_size⟩, ok_Shape_size F_Num_size F_Nested_size F_Many_size F_Pick_size F_Pick_chosen_size F_Shape_size W_Num_size W_Nested_size W_Many_size W_Pick_size W_Pick_chosen_size W_Shape_size A_Num_width A_Nested_shape A_Many_count A_Many_kind A_Pick_shapes A_Shape_fields z_max z_sum, F_Shape_size.binds (ps := ["self"]) fun _ _ _ _ _ _ us hl => match us, hl with | [_], _ => rfl⟩⟩
  have N_Kind_depth : Nn l.prog w K mg base CX0 99 C_Kind "depth" ["self"] (spKD ⟨C_Num, C_Nested, C_Many, C_Pick, C_Shape⟩ 24 isNumK) := ⟨K_Kind, ⟨_, _, ⟨a_Kind_depth, i_Kind_depth, k_Kind_depth⟩, ok_Kind_depth F_Kind_depth F_Nested_depth F_Many_depth F_Pick_depth F_Shape_depth W_Num_depth W_Nested_depth W_Many_depth W_Pick_depth W_Shape_depth A_Nested_shape A_Many_kind A_Pick_shapes A_Shape_fields z_max, F_Kind_depth.binds (ps := ["self"]) fun _ _ _ _ _ _ us hl => match us, hl with | [_], _ => rfl⟩⟩
  have N_Nested_depth : Nn l.prog w K mg base CX0 99 C_Nested "depth" ["self"] (spKD ⟨C_Num, C_Nested, C_Many, C_Pick, C_Shape⟩ 24 isShpK) := ⟨K_Nested, ⟨_, _, ⟨a_Nested_depth, i_Nested_depth, k_Nested_depth⟩, ok_Nested_depth F_Kind_depth F_Nested_depth F_Many_depth F_Pick_depth F_Shape_depth W_Num_depth W_Nested_depth W_Many_depth W_Pick_depth W_Shape_depth A_Nested_shape A_Many_kind A_Pick_shapes A_Shape_fields z_max, F_Nested_depth.binds (ps := ["self"]) fun _ _ _ _ _ _ us hl => match us, hl with | [_], _ => rfl⟩⟩
  have N_Many_depth : Nn l.prog w K mg base CX0 99 C_Many "depth" ["self"] (spKD ⟨C_Num, C_Nested, C_Many, C_Pick, C_Shape⟩ 24 isRowK) := ⟨K_Many, ⟨_, _, ⟨a_Many_depth, i_Many_depth, k_Many_depth⟩, ok_Many_depth F_Kind_depth F_Nested_depth F_Many_depth F_Pick_depth F_Shape_depth W_Num_depth W_Nested_depth W_Many_depth W_Pick_depth W_Shape_depth A_Nested_shape A_Many_kind A_Pick_shapes A_Shape_fields z_max, F_Many_depth.binds (ps := ["self"]) fun _ _ _ _ _ _ us hl => match us, hl with | [_], _ => rfl⟩⟩
  have N_Pick_depth : Nn l.prog w K mg base CX0 99 C_Pick "depth" ["self"] (spKD ⟨C_Num, C_Nested, C_Many, C_Pick, C_Shape⟩ 24 isPickK) := ⟨K_Pick, ⟨_, _, ⟨a_Pick_depth, i_Pick_depth, k_Pick_depth⟩, ok_Pick_depth F_Kind_depth F_Nested_depth F_Many_depth F_Pick_depth F_Shape_depth W_Num_depth W_Nested_depth W_Many_depth W_Pick_depth W_Shape_depth A_Nested_shape A_Many_kind A_Pick_shapes A_Shape_fields z_max, F_Pick_depth.binds (ps := ["self"]) fun _ _ _ _ _ _ us hl => match us, hl with | [_], _ => rfl⟩⟩
  have N_Shape_depth : Nn l.prog w K mg base CX0 97 C_Shape "depth" ["self"] (spSD ⟨C_Num, C_Nested, C_Many, C_Pick, C_Shape⟩ 24) := ⟨K_Shape, ⟨_, _, ⟨a_Shape_depth, i_Shape_depth, k_Shape_depth⟩, ok_Shape_depth F_Kind_depth F_Nested_depth F_Many_depth F_Pick_depth F_Shape_depth W_Num_depth W_Nested_depth W_Many_depth W_Pick_depth W_Shape_depth A_Nested_shape A_Many_kind A_Pick_shapes A_Shape_fields z_max, F_Shape_depth.binds (ps := ["self"]) fun _ _ _ _ _ _ us hl => match us, hl with | [_], _ => rfl⟩⟩
  have N_Num_units : Nn l.prog w K mg base CX0 124 C_Num "units" ["self", "path"] (spKU K ⟨C_Num, C_Nested, C_Many, C_Pick, C_Shape⟩ 24 isNumK) := ⟨K_Num, ⟨_, _, ⟨a_Num_units, i_Num_units, k_Num_units⟩, ok_Num_units F_Num_units F_Nested_units F_Many_units F_Pick_units W_Num_units W_Nested_units W_Many_units W_Pick_units A_Num_width A_Nested_shape A_Many_count A_Many_kind A_Shape_fields z_range z_str D_joined N_Pick_chosen_size K_Shape, F_Num_units.binds (ps := ["self", "path"]) fun _ _ _ _ _ _ us hl => match us, hl with | [_, _], _ => rfl⟩⟩
  have N_Nested_units : Nn l.prog w K mg base CX0 124 C_Nested "units" ["self", "path"] (spKU K ⟨C_Num, C_Nested, C_Many, C_Pick, C_Shape⟩ 24 isShpK) := ⟨K_Nested, ⟨_, _, ⟨a_Nested_units, i_Nested_units, k_Nested_units⟩, ok_Nested_units F_Num_units F_Nested_units F_Many_units F_Pick_units W_Num_units W_Nested_units W_Many_units W_Pick_units A_Num_width A_Nested_shape A_Many_count A_Many_kind A_Shape_fields z_range z_str D_joined N_Pick_chosen_size K_Shape, F_Nested_units.binds (ps := ["self", "path"]) fun _ _ _ _ _ _ us hl => match us, hl with | [_, _], _ => rfl⟩⟩
  have N_Many_units : Nn l.prog w K mg base CX0 124 C_Many "units" ["self", "path"] (spKU K ⟨C_Num, C_Nested, C_Many, C_Pick, C_Shape⟩ 24 isRowK) := ⟨K_Many, ⟨_, _, ⟨a_Many_units, i_Many_units, k_Many_units⟩, ok_Many_units F_Num_units F_Nested_units F_Many_units F_Pick_units W_Num_units W_Nested_units W_Many_units W_Pick_units A_Num_width A_Nested_shape A_Many_count A_Many_kind A_Shape_fields z_range z_str D_joined N_Pick_chosen_size K_Shape, F_Many_units.binds (ps := ["self", "path"]) fun _ _ _ _ _ _ us hl => match us, hl with | [_, _], _ => rfl⟩⟩
  have N_Pick_units : Nn l.prog w K mg base CX0 124 C_Pick "units" ["self", "path"] (spKU K ⟨C_Num, C_Nested, C_Many, C_Pick, C_Shape⟩ 24 isPickK) := ⟨K_Pick, ⟨_, _, ⟨a_Pick_units, i_Pick_units, k_Pick_units⟩, ok_Pick_units F_Num_units F_Nested_units F_Many_units F_Pick_units W_Num_units W_Nested_units W_Many_units W_Pick_units A_Num_width A_Nested_shape A_Many_count A_Many_kind A_Shape_fields z_range z_str D_joined N_Pick_chosen_size K_Shape, F_Pick_units.binds (ps := ["self", "path"]) fun _ _ _ _ _ _ us hl => match us, hl with | [_, _], _ => rfl⟩⟩
  have M_Num : Mn l.prog w K mg base CX0 1 C_Num "Num" ["self", "width"] (spNumI C_Num) := ⟨⟨_, _, ⟨mk_Num, a_Num_init, i_Num_init, kc_Num⟩, ok_numI F_Num_init K_Num A_Num_width, PySem.W.mg_of X G aC_Num, F_Num_init.binds (ps := ["self", "width"]) fun _ _ _ _ _ _ us hl => match us, hl with | [_, _], _ => rfl⟩⟩
  have M_Nested : Mn l.prog w K mg base CX0 1 C_Nested "Nested" ["self", "shape"] (spNestedI C_Nested) := ⟨⟨_, _, ⟨mk_Nested, a_Nested_init, i_Nested_init, kc_Nested⟩, ok_nestedI F_Nested_init K_Nested A_Nested_shape, PySem.W.mg_of X G aC_Nested, F_Nested_init.binds (ps := ["self", "shape"]) fun _ _ _ _ _ _ us hl => match us, hl with | [_, _], _ => rfl⟩⟩
  have M_Many : Mn l.prog w K mg base CX0 1 C_Many "Many" ["self", "count", "kind"] (spManyI C_Many) := ⟨⟨_, _, ⟨mk_Many, a_Many_init, i_Many_init, kc_Many⟩, ok_manyI F_Many_init K_Many A_Many_count A_Many_kind, PySem.W.mg_of X G aC_Many, F_Many_init.binds (ps := ["self", "count", "kind"]) fun _ _ _ _ _ _ us hl => match us, hl with | [_, _, _], _ => rfl⟩⟩
  have M_Pick : Mn l.prog w K mg base CX0 1 C_Pick "Pick" ["self", "shapes"] (spTupI K C_Pick) := ⟨⟨_, _, ⟨mk_Pick, a_Pick_init, i_Pick_init, kc_Pick⟩, ok_pickI F_Pick_init z_tuple K_Pick A_Pick_shapes, PySem.W.mg_of X G aC_Pick, F_Pick_init.binds (ps := ["self", "shapes"]) fun _ _ _ _ _ _ us hl => match us, hl with | [_, _], _ => rfl⟩⟩
  have M_Shapes : Mn l.prog w K mg base CX0 1 C_Shapes "Shapes" ["self", "shapes"] (spTupI K C_Shapes) := ⟨⟨_, _, ⟨mk_Shapes, a_Shapes_init, i_Shapes_init, kc_Shapes⟩, ok_shapesI F_Shapes_init z_tuple K_Shapes A_Shapes_shapes, PySem.W.mg_of X G aC_Shapes, F_Shapes_init.binds (ps := ["self", "shapes"]) fun _ _ _ _ _ _ us hl => match us, hl with | [_, _], _ => rfl⟩⟩
  have M_Shape : Mn l.prog w K mg base CX0 1 C_Shape "Shape" ["self", "name", "fields"] (spShapeI K C_Shape) := ⟨⟨_, _, ⟨mk_Shape, a_Shape_init, i_Shape_init, kc_Shape⟩, ok_shapeI F_Shape_init z_tuple K_Shape A_Shape_name A_Shape_fields, PySem.W.mg_of X G aC_Shape, F_Shape_init.binds (ps := ["self", "name", "fields"]) fun _ _ _ _ _ _ us hl => match us, hl with | [_, _, _], _ => rfl⟩⟩
  have D_is_form : Dn l.prog w K mg base CX0 8 "is_form" ["words"] (spForm 5) := ⟨⟨_, _, ok_form F_is_form W_is_form z_len z_all D_number_in D_is_name, PySem.W.mg_of X G a_is_form, k_is_form, F_is_form.binds (ps := ["words"]) fun _ _ _ _ _ _ us hl => match us, hl with | [_], _ => rfl⟩⟩
  have N_Draft_kind_in : Nn l.prog w K mg base CX0 8 C_Draft "kind_in" ["self", "line", "words"] (spKindIn ⟨C_Num, C_Nested, C_Many, C_Pick, C_Shape⟩ C_Draft 5) := ⟨K_Draft, ⟨_, _, ⟨a_Draft_kind_in, i_Draft_kind_in, k_Draft_kind_in⟩, ok_kindIn F_Draft_kind_in W_Draft_kind_in z_int z_enumerate A_Draft_known M_Num M_Nested M_Many M_Pick, F_Draft_kind_in.binds (ps := ["self", "line", "words"]) fun _ _ _ _ _ _ us hl => match us, hl with | [_, _, _], _ => rfl⟩⟩
  have N_Shape_units : Nn l.prog w K mg base CX0 125 C_Shape "units" ["self"] (spSU K ⟨C_Num, C_Nested, C_Many, C_Pick, C_Shape⟩) := ⟨K_Shape, ⟨_, _, ⟨a_Shape_units, i_Shape_units, k_Shape_units⟩, ok_shapeUnits F_Shape_units M_Nested N_Nested_units, F_Shape_units.binds (ps := ["self"]) fun _ _ _ _ _ _ us hl => match us, hl with | [_], _ => rfl⟩⟩
  have M_Draft : Mn l.prog w K mg base CX0 1 C_Draft "Draft" ["self"] (spDraftI C_Draft) := ⟨⟨_, _, ⟨mk_Draft, a_Draft_init, i_Draft_init, kc_Draft⟩, ok_draftI F_Draft_init K_Draft A_Draft_known A_Draft_fields A_Draft_begun, PySem.W.mg_of X G aC_Draft, F_Draft_init.binds (ps := ["self"]) fun _ _ _ _ _ _ us hl => match us, hl with | [_], _ => rfl⟩⟩
  have N_Draft_end_shape : Nn l.prog w K mg base CX0 3 C_Draft "end_shape" ["self"] (spEnd ⟨C_Num, C_Nested, C_Many, C_Pick, C_Shape⟩ C_Draft) := ⟨K_Draft, ⟨_, _, ⟨a_Draft_end_shape, i_Draft_end_shape, k_Draft_end_shape⟩, ok_end F_Draft_end_shape K_Draft A_Draft_known A_Draft_fields A_Draft_begun M_Shape, F_Draft_end_shape.binds (ps := ["self"]) fun _ _ _ _ _ _ us hl => match us, hl with | [_], _ => rfl⟩⟩
  have N_Draft_take_shape : Nn l.prog w K mg base CX0 4 C_Draft "take_shape" ["self", "line", "name"] (spTakeShape ⟨C_Num, C_Nested, C_Many, C_Pick, C_Shape⟩ C_Draft) := ⟨K_Draft, ⟨_, _, ⟨a_Draft_take_shape, i_Draft_take_shape, k_Draft_take_shape⟩, ok_takeShape F_Draft_take_shape z_len K_Draft A_Draft_known A_Draft_fields A_Draft_begun c_MOST_SHAPES N_Draft_end_shape, F_Draft_take_shape.binds (ps := ["self", "line", "name"]) fun _ _ _ _ _ _ us hl => match us, hl with | [_, _, _], _ => rfl⟩⟩
  have N_Draft_take_field : Nn l.prog w K mg base CX0 126 C_Draft "take_field" ["self", "line", "words"] (spTakeField ⟨C_Num, C_Nested, C_Many, C_Pick, C_Shape⟩ C_Draft) := ⟨K_Draft, ⟨_, _, ⟨a_Draft_take_field, i_Draft_take_field, k_Draft_take_field⟩, ok_takeField F_Draft_take_field z_len K_Draft A_Draft_fields A_Draft_begun c_MOST_FIELDS c_MOST_CELLS c_MOST_UNITS c_DEEPEST N_Draft_kind_in M_Shape N_Shape_size N_Shape_depth N_Shape_units, F_Draft_take_field.binds (ps := ["self", "line", "words"]) fun _ _ _ _ _ _ us hl => match us, hl with | [_, _, _], _ => rfl⟩⟩
  have D_read_shapes : Dn l.prog w K mg base CX0 127 "read_shapes" ["text"] (spRead ⟨C_Num, C_Nested, C_Many, C_Pick, C_Shape⟩ C_Shapes) := ⟨⟨_, _, ok_read F_read_shapes z_len z_list z_str z_isinstance z_enumerate K_Draft A_Draft_known A_Draft_fields D_is_name D_is_form M_Draft M_Shapes N_Draft_take_shape N_Draft_end_shape N_Draft_take_field, PySem.W.mg_of X G a_read_shapes, k_read_shapes, F_read_shapes.binds (ps := ["text"]) fun _ _ _ _ _ _ us hl => match us, hl with | [_], _ => rfl⟩⟩
  have N_Num_spread : Nn l.prog w K mg base CX0 124 C_Num "spread" ["self", "path", "unit", "offset", "holds"] (spKSp K ⟨C_Num, C_Nested, C_Many, C_Pick, C_Shape⟩ 24 isNumK) := ⟨K_Num, ⟨_, _, ⟨a_Num_spread, i_Num_spread, k_Num_spread⟩, ok_Num_spread F_Num_spread F_Nested_spread F_Many_spread F_Pick_spread W_Num_spread W_Nested_spread W_Many_spread W_Pick_spread A_Num_width A_Nested_shape A_Many_count A_Many_kind A_Pick_shapes A_Shape_name A_Shape_fields z_range z_str z_enumerate D_joined N_Num_size N_Nested_size N_Many_size N_Pick_size M_Nested K_Shape, F_Num_spread.binds (ps := ["self", "path", "unit", "offset", "holds"]) fun _ _ _ _ _ _ us hl => match us, hl with | [_, _, _, _, _], _ => rfl⟩⟩
  have N_Nested_spread : Nn l.prog w K mg base CX0 124 C_Nested "spread" ["self", "path", "unit", "offset", "holds"] (spKSp K ⟨C_Num, C_Nested, C_Many, C_Pick, C_Shape⟩ 24 isShpK) := ⟨K_Nested, ⟨_, _, ⟨a_Nested_spread, i_Nested_spread, k_Nested_spread⟩, ok_Nested_spread F_Num_spread F_Nested_spread F_Many_spread F_Pick_spread W_Num_spread W_Nested_spread W_Many_spread W_Pick_spread A_Num_width A_Nested_shape A_Many_count A_Many_kind A_Pick_shapes A_Shape_name A_Shape_fields z_range z_str z_enumerate D_joined N_Num_size N_Nested_size N_Many_size N_Pick_size M_Nested K_Shape, F_Nested_spread.binds (ps := ["self", "path", "unit", "offset", "holds"]) fun _ _ _ _ _ _ us hl => match us, hl with | [_, _, _, _, _], _ => rfl⟩⟩
  have N_Many_spread : Nn l.prog w K mg base CX0 124 C_Many "spread" ["self", "path", "unit", "offset", "holds"] (spKSp K ⟨C_Num, C_Nested, C_Many, C_Pick, C_Shape⟩ 24 isRowK) := ⟨K_Many, ⟨_, _, ⟨a_Many_spread, i_Many_spread, k_Many_spread⟩, ok_Many_spread F_Num_spread F_Nested_spread F_Many_spread F_Pick_spread W_Num_spread W_Nested_spread W_Many_spread W_Pick_spread A_Num_width A_Nested_shape A_Many_count A_Many_kind A_Pick_shapes A_Shape_name A_Shape_fields z_range z_str z_enumerate D_joined N_Num_size N_Nested_size N_Many_size N_Pick_size M_Nested K_Shape, F_Many_spread.binds (ps := ["self", "path", "unit", "offset", "holds"]) fun _ _ _ _ _ _ us hl => match us, hl with | [_, _, _, _, _], _ => rfl⟩⟩
  have N_Pick_spread : Nn l.prog w K mg base CX0 124 C_Pick "spread" ["self", "path", "unit", "offset", "holds"] (spKSp K ⟨C_Num, C_Nested, C_Many, C_Pick, C_Shape⟩ 24 isPickK) := ⟨K_Pick, ⟨_, _, ⟨a_Pick_spread, i_Pick_spread, k_Pick_spread⟩, ok_Pick_spread F_Num_spread F_Nested_spread F_Many_spread F_Pick_spread W_Num_spread W_Nested_spread W_Many_spread W_Pick_spread A_Num_width A_Nested_shape A_Many_count A_Many_kind A_Pick_shapes A_Shape_name A_Shape_fields z_range z_str z_enumerate D_joined N_Num_size N_Nested_size N_Many_size N_Pick_size M_Nested K_Shape, F_Pick_spread.binds (ps := ["self", "path", "unit", "offset", "holds"]) fun _ _ _ _ _ _ us hl => match us, hl with | [_, _, _, _, _], _ => rfl⟩⟩
  have N_Shape_leaves : Nn l.prog w K mg base CX0 125 C_Shape "leaves" ["self"] (spSL K ⟨C_Num, C_Nested, C_Many, C_Pick, C_Shape⟩) := ⟨K_Shape, ⟨_, _, ⟨a_Shape_leaves, i_Shape_leaves, k_Shape_leaves⟩, ok_shapeLeaves F_Shape_leaves M_Nested N_Nested_spread, F_Shape_leaves.binds (ps := ["self"]) fun _ _ _ _ _ _ us hl => match us, hl with | [_], _ => rfl⟩⟩
  have D_law_parted : Dn l.prog w K mg base CX0 1 "_law_parted" ["_law_one", "_law_other"] (spParted K) := ⟨⟨_, _, ok_parted F_law_parted, PySem.W.mg_of X G a_law_parted, k_law_parted, F_law_parted.binds (ps := ["_law_one", "_law_other"]) fun _ _ _ _ _ _ us hl => match us, hl with | [_, _], _ => rfl⟩⟩
  have D_law_meet : Dn l.prog w K mg base CX0 1 "_law_meet" ["_law_one", "_law_other"] (spMeet K) := ⟨⟨_, _, ok_meet F_law_meet, PySem.W.mg_of X G a_law_meet, k_law_meet, F_law_meet.binds (ps := ["_law_one", "_law_other"]) fun _ _ _ _ _ _ us hl => match us, hl with | [_, _], _ => rfl⟩⟩
  have D_law_right : Dn l.prog w K mg base CX0 126 "_law_right" ["_law_shape"] (spRight K ⟨C_Num, C_Nested, C_Many, C_Pick, C_Shape⟩) := ⟨⟨_, _, ok_right F_law_right z_len z_set z_enumerate N_Shape_units N_Shape_leaves D_law_meet D_law_parted, PySem.W.mg_of X G a_law_right, k_law_right, F_law_right.binds (ps := ["_law_shape"]) fun _ _ _ _ _ _ us hl => match us, hl with | [_], _ => rfl⟩⟩
  exact ok_law F_law z_len z_max z_min z_range K_Shapes A_Shapes_shapes D_law_cell D_law_box D_law_shapes D_law_text D_law_right D_read_shapes
end K10
open PySem PySem.W PyProof.Rows
set_option maxHeartbeats 0 in
theorem PySem.Challenge.cw_roomslaid_k10_whole_leaves_apart_holds : PySem.Challenge.rw_roomslaid_k10_whole_leaves_apart.Holds := by
  w_on; o_law; k_head; (case hw => w_witness2)
  k_fill
  refine L2.walk_of (l := PySem.Challenge.rw_roomslaid_k10_whole_leaves_apart) (n := 63) (k := 128) (x := "_law_script") (CX := fun _ => L2.CX0) (sp := fun w => K10.spLaw _) rfl (by decide) rfl ⟨rfl, by decide, by decide⟩ (fun w h Y => PySem.W.kIn_of Y) ?F (fun _ _ a ns hl _ hS => ⟨a, ns, rfl, hS, hl, fun _ => rfl⟩) (fun _ _ _ _ _ h => h)
  case F =>
    intro w mg fa h KX G hmg
    refine' K10.all_mk KX G hmg ?aC_Draft ?pg_Draft ?hd_Draft ?po_Draft ?sa_Draft ?mk_Draft ?kc_Draft ?aC_Kind ?pg_Kind ?hd_Kind ?po_Kind ?sa_Kind ?aC_Many ?pg_Many ?hd_Many ?po_Many ?sa_Many ?mk_Many ?kc_Many ?aC_Nested ?pg_Nested ?hd_Nested ?po_Nested ?sa_Nested ?mk_Nested ?kc_Nested ?aC_Num ?pg_Num ?hd_Num ?po_Num ?sa_Num ?mk_Num ?kc_Num ?aC_Pick ?pg_Pick ?hd_Pick ?po_Pick ?sa_Pick ?mk_Pick ?kc_Pick ?aC_Shape ?pg_Shape ?hd_Shape ?po_Shape ?sa_Shape ?mk_Shape ?kc_Shape ?aC_Shapes ?pg_Shapes ?hd_Shapes ?po_Shapes ?sa_Shapes ?mk_Shapes ?kc_Shapes ?nA_Draft_begun ?nA_Draft_fields ?nA_Draft_known ?nA_Many_count ?nA_Many_kind ?nA_Nested_shape ?nA_Num_width ?nA_Pick_shapes ?nA_Shape_fields ?nA_Shape_name ?nA_Shapes_shapes ?a_law_cell ?l_law_cell ?c_law_cell ?k_law_cell ?a_law_box ?l_law_box ?c_law_box ?k_law_box ?a_law_take ?l_law_take ?c_law_take ?k_law_take ?a_are_signs ?l_are_signs ?c_are_signs ?k_are_signs ?a_is_name ?l_is_name ?c_is_name ?k_is_name ?a_number_in ?l_number_in ?c_number_in ?k_number_in ?a_law_joined ?l_law_joined ?c_law_joined ?k_law_joined ?a_law_size ?l_law_size ?c_law_size ?k_law_size ?a_law_depth ?l_law_depth ?c_law_depth ?k_law_depth ?a_law_units ?l_law_units ?c_law_units ?k_law_units ?a_law_fits ?l_law_fits ?c_law_fits ?k_law_fits ?a_law_kind_text ?l_law_kind_text ?c_law_kind_text ?k_law_kind_text ?a_law_text ?l_law_text ?c_law_text ?k_law_text ?a_law_names ?l_law_names ?c_law_names ?k_law_names ?a_law_kind ?l_law_kind ?c_law_kind ?k_law_kind ?a_law_shapes ?l_law_shapes ?c_law_shapes ?k_law_shapes ?a_joined ?l_joined ?c_joined ?k_joined ?a_Num_size ?i_Num_size ?l_Num_size ?c_Num_size ?k_Num_size ?a_Nested_size ?i_Nested_size ?l_Nested_size ?c_Nested_size ?k_Nested_size ?a_Many_size ?i_Many_size ?l_Many_size ?c_Many_size ?k_Many_size ?a_Pick_size ?i_Pick_size ?l_Pick_size ?c_Pick_size ?k_Pick_size ?a_Pick_chosen_size ?i_Pick_chosen_size ?l_Pick_chosen_size ?c_Pick_chosen_size ?k_Pick_chosen_size ?a_Shape_size ?i_Shape_size ?l_Shape_size ?c_Shape_size ?k_Shape_size ?a_Kind_depth ?i_Kind_depth ?l_Kind_depth ?c_Kind_depth ?k_Kind_depth ?a_Nested_depth ?i_Nested_depth ?l_Nested_depth ?c_Nested_depth ?k_Nested_depth ?a_Many_depth ?i_Many_depth ?l_Many_depth ?c_Many_depth ?k_Many_depth ?a_Pick_depth ?i_Pick_depth ?l_Pick_depth ?c_Pick_depth ?k_Pick_depth ?a_Shape_depth ?i_Shape_depth ?l_Shape_depth ?c_Shape_depth ?k_Shape_depth ?a_Num_units ?i_Num_units ?l_Num_units ?c_Num_units ?k_Num_units ?a_Nested_units ?i_Nested_units ?l_Nested_units ?c_Nested_units ?k_Nested_units ?a_Many_units ?i_Many_units ?l_Many_units ?c_Many_units ?k_Many_units ?a_Pick_units ?i_Pick_units ?l_Pick_units ?c_Pick_units ?k_Pick_units ?a_Num_init ?i_Num_init ?l_Num_init ?c_Num_init ?k_Num_init ?a_Nested_init ?i_Nested_init ?l_Nested_init ?c_Nested_init ?k_Nested_init ?a_Many_init ?i_Many_init ?l_Many_init ?c_Many_init ?k_Many_init ?a_Pick_init ?i_Pick_init ?l_Pick_init ?c_Pick_init ?k_Pick_init ?a_Shapes_init ?i_Shapes_init ?l_Shapes_init ?c_Shapes_init ?k_Shapes_init ?a_Shape_init ?i_Shape_init ?l_Shape_init ?c_Shape_init ?k_Shape_init ?a_is_form ?l_is_form ?c_is_form ?k_is_form ?a_Draft_kind_in ?i_Draft_kind_in ?l_Draft_kind_in ?c_Draft_kind_in ?k_Draft_kind_in ?a_Shape_units ?i_Shape_units ?l_Shape_units ?c_Shape_units ?k_Shape_units ?a_Draft_init ?i_Draft_init ?l_Draft_init ?c_Draft_init ?k_Draft_init ?a_Draft_end_shape ?i_Draft_end_shape ?l_Draft_end_shape ?c_Draft_end_shape ?k_Draft_end_shape ?a_Draft_take_shape ?i_Draft_take_shape ?l_Draft_take_shape ?c_Draft_take_shape ?k_Draft_take_shape ?a_Draft_take_field ?i_Draft_take_field ?l_Draft_take_field ?c_Draft_take_field ?k_Draft_take_field ?a_read_shapes ?l_read_shapes ?c_read_shapes ?k_read_shapes ?a_Num_spread ?i_Num_spread ?l_Num_spread ?c_Num_spread ?k_Num_spread ?a_Nested_spread ?i_Nested_spread ?l_Nested_spread ?c_Nested_spread ?k_Nested_spread ?a_Many_spread ?i_Many_spread ?l_Many_spread ?c_Many_spread ?k_Many_spread ?a_Pick_spread ?i_Pick_spread ?l_Pick_spread ?c_Pick_spread ?k_Pick_spread ?a_Shape_leaves ?i_Shape_leaves ?l_Shape_leaves ?c_Shape_leaves ?k_Shape_leaves ?a_law_parted ?l_law_parted ?c_law_parted ?k_law_parted ?a_law_meet ?l_law_meet ?c_law_meet ?k_law_meet ?a_law_right ?l_law_right ?c_law_right ?k_law_right ?a_law ?l_law ?c_law ?k_law ?a_Num_depth ?n_all ?n_enumerate ?n_int ?n_isinstance ?n_len ?n_list ?n_max ?n_min ?n_range ?n_set ?n_str ?n_sum ?n_tuple ?q_DEEPEST ?q_FIGURES ?q_LETTERS ?q_LONGEST_NAME ?q_LONGEST_NUMBER ?q_MOST_CELLS ?q_MOST_FIELDS ?q_MOST_SHAPES ?q_MOST_UNITS ?q_OWN_WORDS ?lt_OWN_WORDS
    (case aC_Draft => k_is)
    (case pg_Draft => k_is)
    (case hd_Draft => k_is)
    (case po_Draft => k_is)
    (case sa_Draft => k_is)
    (case mk_Draft => k_is)
    (case kc_Draft => k_is)
    (case aC_Kind => k_is)
    (case pg_Kind => k_is)
    (case hd_Kind => k_is)
    (case po_Kind => k_is)
    (case sa_Kind => k_is)
    (case aC_Many => k_is)
    (case pg_Many => k_is)
    (case hd_Many => k_is)
    (case po_Many => k_is)
    (case sa_Many => k_is)
    (case mk_Many => k_is)
    (case kc_Many => k_is)
    (case aC_Nested => k_is)
    (case pg_Nested => k_is)
    (case hd_Nested => k_is)
    (case po_Nested => k_is)
    (case sa_Nested => k_is)
    (case mk_Nested => k_is)
    (case kc_Nested => k_is)
    (case aC_Num => k_is)
    (case pg_Num => k_is)
    (case hd_Num => k_is)
    (case po_Num => k_is)
    (case sa_Num => k_is)
    (case mk_Num => k_is)
    (case kc_Num => k_is)
    (case aC_Pick => k_is)
    (case pg_Pick => k_is)
    (case hd_Pick => k_is)
    (case po_Pick => k_is)
    (case sa_Pick => k_is)
    (case mk_Pick => k_is)
    (case kc_Pick => k_is)
    (case aC_Shape => k_is)
    (case pg_Shape => k_is)
    (case hd_Shape => k_is)
    (case po_Shape => k_is)
    (case sa_Shape => k_is)
    (case mk_Shape => k_is)
    (case kc_Shape => k_is)
    (case aC_Shapes => k_is)
    (case pg_Shapes => k_is)
    (case hd_Shapes => k_is)
    (case po_Shapes => k_is)
    (case sa_Shapes => k_is)
    (case mk_Shapes => k_is)
    (case kc_Shapes => k_is)
    (case nA_Draft_begun => k_is)
    (case nA_Draft_fields => k_is)
    (case nA_Draft_known => k_is)
    (case nA_Many_count => k_is)
    (case nA_Many_kind => k_is)
    (case nA_Nested_shape => k_is)
    (case nA_Num_width => k_is)
    (case nA_Pick_shapes => k_is)
    (case nA_Shape_fields => k_is)
    (case nA_Shape_name => k_is)
    (case nA_Shapes_shapes => k_is)
    (case a_law_cell => k_is)
    (case l_law_cell => k_is)
    (case c_law_cell => k_is)
    (case k_law_cell => k_is)
    (case a_law_box => k_is)
    (case l_law_box => k_is)
    (case c_law_box => k_is)
    (case k_law_box => k_is)
    (case a_law_take => k_is)
    (case l_law_take => k_is)
    (case c_law_take => k_is)
    (case k_law_take => k_is)
    (case a_are_signs => k_is)
    (case l_are_signs => k_is)
    (case c_are_signs => k_is)
    (case k_are_signs => k_is)
    (case a_is_name => k_is)
    (case l_is_name => k_is)
    (case c_is_name => k_is)
    (case k_is_name => k_is)
    (case a_number_in => k_is)
    (case l_number_in => k_is)
    (case c_number_in => k_is)
    (case k_number_in => k_is)
    (case a_law_joined => k_is)
    (case l_law_joined => k_is)
    (case c_law_joined => k_is)
    (case k_law_joined => k_is)
    (case a_law_size => k_is)
    (case l_law_size => k_is)
    (case c_law_size => k_is)
    (case k_law_size => k_is)
    (case a_law_depth => k_is)
    (case l_law_depth => k_is)
    (case c_law_depth => k_is)
    (case k_law_depth => k_is)
    (case a_law_units => k_is)
    (case l_law_units => k_is)
    (case c_law_units => k_is)
    (case k_law_units => k_is)
    (case a_law_fits => k_is)
    (case l_law_fits => k_is)
    (case c_law_fits => k_is)
    (case k_law_fits => k_is)
    (case a_law_kind_text => k_is)
    (case l_law_kind_text => k_is)
    (case c_law_kind_text => k_is)
    (case k_law_kind_text => k_is)
    (case a_law_text => k_is)
    (case l_law_text => k_is)
    (case c_law_text => k_is)
    (case k_law_text => k_is)
    (case a_law_names => k_is)
    (case l_law_names => k_is)
    (case c_law_names => k_is)
    (case k_law_names => k_is)
    (case a_law_kind => k_is)
    (case l_law_kind => k_is)
    (case c_law_kind => k_is)
    (case k_law_kind => k_is)
    (case a_law_shapes => k_is)
    (case l_law_shapes => k_is)
    (case c_law_shapes => k_is)
    (case k_law_shapes => k_is)
    (case a_joined => k_is)
    (case l_joined => k_is)
    (case c_joined => k_is)
    (case k_joined => k_is)
    (case a_Num_size => k_is)
    (case i_Num_size => k_is)
    (case l_Num_size => k_is)
    (case c_Num_size => k_is)
    (case k_Num_size => k_is)
    (case a_Nested_size => k_is)
    (case i_Nested_size => k_is)
    (case l_Nested_size => k_is)
    (case c_Nested_size => k_is)
    (case k_Nested_size => k_is)
    (case a_Many_size => k_is)
    (case i_Many_size => k_is)
    (case l_Many_size => k_is)
    (case c_Many_size => k_is)
    (case k_Many_size => k_is)
    (case a_Pick_size => k_is)
    (case i_Pick_size => k_is)
    (case l_Pick_size => k_is)
    (case c_Pick_size => k_is)
    (case k_Pick_size => k_is)
    (case a_Pick_chosen_size => k_is)
    (case i_Pick_chosen_size => k_is)
    (case l_Pick_chosen_size => k_is)
    (case c_Pick_chosen_size => k_is)
    (case k_Pick_chosen_size => k_is)
    (case a_Shape_size => k_is)
    (case i_Shape_size => k_is)
    (case l_Shape_size => k_is)
    (case c_Shape_size => k_is)
    (case k_Shape_size => k_is)
    (case a_Kind_depth => k_is)
    (case i_Kind_depth => k_is)
    (case l_Kind_depth => k_is)
    (case c_Kind_depth => k_is)
    (case k_Kind_depth => k_is)
    (case a_Nested_depth => k_is)
    (case i_Nested_depth => k_is)
    (case l_Nested_depth => k_is)
    (case c_Nested_depth => k_is)
    (case k_Nested_depth => k_is)
    (case a_Many_depth => k_is)
    (case i_Many_depth => k_is)
    (case l_Many_depth => k_is)
    (case c_Many_depth => k_is)
    (case k_Many_depth => k_is)
    (case a_Pick_depth => k_is)
    (case i_Pick_depth => k_is)
    (case l_Pick_depth => k_is)
    (case c_Pick_depth => k_is)
    (case k_Pick_depth => k_is)
    (case a_Shape_depth => k_is)
    (case i_Shape_depth => k_is)
    (case l_Shape_depth => k_is)
    (case c_Shape_depth => k_is)
    (case k_Shape_depth => k_is)
    (case a_Num_units => k_is)
    (case i_Num_units => k_is)
    (case l_Num_units => k_is)
    (case c_Num_units => k_is)
    (case k_Num_units => k_is)
    (case a_Nested_units => k_is)
    (case i_Nested_units => k_is)
    (case l_Nested_units => k_is)
    (case c_Nested_units => k_is)
    (case k_Nested_units => k_is)
    (case a_Many_units => k_is)
    (case i_Many_units => k_is)
    (case l_Many_units => k_is)
    (case c_Many_units => k_is)
    (case k_Many_units => k_is)
    (case a_Pick_units => k_is)
    (case i_Pick_units => k_is)
    (case l_Pick_units => k_is)
    (case c_Pick_units => k_is)
    (case k_Pick_units => k_is)
    (case a_Num_init => k_is)
    (case i_Num_init => k_is)
    (case l_Num_init => k_is)
    (case c_Num_init => k_is)
    (case k_Num_init => k_is)
    (case a_Nested_init => k_is)
    (case i_Nested_init => k_is)
    (case l_Nested_init => k_is)
    (case c_Nested_init => k_is)
    (case k_Nested_init => k_is)
    (case a_Many_init => k_is)
    (case i_Many_init => k_is)
    (case l_Many_init => k_is)
    (case c_Many_init => k_is)
    (case k_Many_init => k_is)
    (case a_Pick_init => k_is)
    (case i_Pick_init => k_is)
    (case l_Pick_init => k_is)
    (case c_Pick_init => k_is)
    (case k_Pick_init => k_is)
    (case a_Shapes_init => k_is)
    (case i_Shapes_init => k_is)
    (case l_Shapes_init => k_is)
    (case c_Shapes_init => k_is)
    (case k_Shapes_init => k_is)
    (case a_Shape_init => k_is)
    (case i_Shape_init => k_is)
    (case l_Shape_init => k_is)
    (case c_Shape_init => k_is)
    (case k_Shape_init => k_is)
    (case a_is_form => k_is)
    (case l_is_form => k_is)
    (case c_is_form => k_is)
    (case k_is_form => k_is)
    (case a_Draft_kind_in => k_is)
    (case i_Draft_kind_in => k_is)
    (case l_Draft_kind_in => k_is)
    (case c_Draft_kind_in => k_is)
    (case k_Draft_kind_in => k_is)
    (case a_Shape_units => k_is)
    (case i_Shape_units => k_is)
    (case l_Shape_units => k_is)
    (case c_Shape_units => k_is)
    (case k_Shape_units => k_is)
    (case a_Draft_init => k_is)
    (case i_Draft_init => k_is)
    (case l_Draft_init => k_is)
    (case c_Draft_init => k_is)
    (case k_Draft_init => k_is)
    (case a_Draft_end_shape => k_is)
    (case i_Draft_end_shape => k_is)
    (case l_Draft_end_shape => k_is)
    (case c_Draft_end_shape => k_is)
    (case k_Draft_end_shape => k_is)
    (case a_Draft_take_shape => k_is)
    (case i_Draft_take_shape => k_is)
    (case l_Draft_take_shape => k_is)
    (case c_Draft_take_shape => k_is)
    (case k_Draft_take_shape => k_is)
    (case a_Draft_take_field => k_is)
    (case i_Draft_take_field => k_is)
    (case l_Draft_take_field => k_is)
    (case c_Draft_take_field => k_is)
    (case k_Draft_take_field => k_is)
    (case a_read_shapes => k_is)
    (case l_read_shapes => k_is)
    (case c_read_shapes => k_is)
    (case k_read_shapes => k_is)
    (case a_Num_spread => k_is)
    (case i_Num_spread => k_is)
    (case l_Num_spread => k_is)
    (case c_Num_spread => k_is)
    (case k_Num_spread => k_is)
    (case a_Nested_spread => k_is)
    (case i_Nested_spread => k_is)
    (case l_Nested_spread => k_is)
    (case c_Nested_spread => k_is)
    (case k_Nested_spread => k_is)
    (case a_Many_spread => k_is)
    (case i_Many_spread => k_is)
    (case l_Many_spread => k_is)
    (case c_Many_spread => k_is)
    (case k_Many_spread => k_is)
    (case a_Pick_spread => k_is)
    (case i_Pick_spread => k_is)
    (case l_Pick_spread => k_is)
    (case c_Pick_spread => k_is)
    (case k_Pick_spread => k_is)
    (case a_Shape_leaves => k_is)
    (case i_Shape_leaves => k_is)
    (case l_Shape_leaves => k_is)
    (case c_Shape_leaves => k_is)
    (case k_Shape_leaves => k_is)
    (case a_law_parted => k_is)
    (case l_law_parted => k_is)
    (case c_law_parted => k_is)
    (case k_law_parted => k_is)
    (case a_law_meet => k_is)
    (case l_law_meet => k_is)
    (case c_law_meet => k_is)
    (case k_law_meet => k_is)
    (case a_law_right => k_is)
    (case l_law_right => k_is)
    (case c_law_right => k_is)
    (case k_law_right => k_is)
    (case a_law => k_is)
    (case l_law => k_is)
    (case c_law => k_is)
    (case k_law => k_is)
    (case a_Num_depth => k_is)
    (case n_all => k_is)
    (case n_enumerate => k_is)
    (case n_int => k_is)
    (case n_isinstance => k_is)
    (case n_len => k_is)
    (case n_list => k_is)
    (case n_max => k_is)
    (case n_min => k_is)
    (case n_range => k_is)
    (case n_set => k_is)
    (case n_str => k_is)
    (case n_sum => k_is)
    (case n_tuple => k_is)
    (case q_DEEPEST => k_is)
    (case q_FIGURES => k_is)
    (case q_LETTERS => k_is)
    (case q_LONGEST_NAME => k_is)
    (case q_LONGEST_NUMBER => k_is)
    (case q_MOST_CELLS => k_is)
    (case q_MOST_FIELDS => k_is)
    (case q_MOST_SHAPES => k_is)
    (case q_MOST_UNITS => k_is)
    (case q_OWN_WORDS => k_is)
    (case lt_OWN_WORDS => k_is)
