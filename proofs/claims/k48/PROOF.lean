import PyProof.Rows.All
import Wide.All
import OpenK.AllK
import Wide.FinOn
import HandS.ForMost
import HandS.NoneIn
import HandS.IsInst
import HandS.Wide
import HandS.WideBits
import HandS.More
import HandS.SetFor
import PyProof.LongRange
import HandS.Zip
import HandS.Style
import HandS.Text
import HandS.Exc
import HandS.TryOnly
import HandS.TryMany
import HandS.ExcOwn
import HandS.WordsExc
import HandS.ExcInit
import HandS.ExcField
import HandS.ClsMeth
import HandS.ExcIs
import HandS.Codes
import HandS.StrMore
import PyProof.ReprRoads
import HandS.RaiseMore
import HandS.DeepEq
import KE.KExcIs
import PySem.Challenge.RW_roomslaid_k48_kept_touch_by_touch
set_option Elab.async false
set_option linter.all false
set_option maxRecDepth 100000
set_option maxHeartbeats 4000000
/-! my base: short calls, heaps, readings by simp -/
namespace Rb
open PySem PySem.Spec PyProof.Rows L2

/-! ### a def of the text with its promise -/
structure Dn (P : Program) (w : World) (K : PySem.W.Frag) (mg : Str → Option Value) (base : Heap) (CX : CXT) (k : Nat) (x : Str) (ps : List Str) (sp : Sp) : Prop where
  ex : ∃ f fd, FnOk P w K mg base CX k f fd ps sp ∧ mg x = some (.ref f) ∧ PySem.W.keepIn K (.ref f) = true ∧ Binds K fd ps []
section
variable {X : Cx} {CX : CXT} {k : Nat} {ps : List Str} {sp : Sp} {E : XK} {x : Str} {p pos : Pos} {e : Expr} {es : List Expr} {t : TA}
theorem pe_cd (D : Dn X.prog X.w X.K X.mg X.base CX k x ps sp) (hr : Room k X.A) (hg : Gl X x) (hx : Passes CX X E) (ha : PA X (e :: es) t)
    (hdb : (x == ("__debug__" : Str)) = false := by decide) (he : starEach (e :: es) X.env = (false, eval e X.env) :: starEach es X.env := by rfl) (hpl : (backTo pos (starEach es X.env)).any (·.1) = false := by rfl) :
    PE X (.Call (.Name x p) (e :: es) [] pos) (tCall sp [] E t) := by
  obtain ⟨f, fd, F, m, kp, b⟩ := D.ex
  exact pe_call F hr hg m kp b .nil hx ha hdb he hpl
theorem pe_cd0 (D : Dn X.prog X.w X.K X.mg X.base CX k x ps sp) (hr : Room k X.A) (hg : Gl X x) (hx : Passes CX X E)
    (hdb : (x == ("__debug__" : Str)) = false := by decide) : PE X (.Call (.Name x p) [] [] pos) (tCall sp [] E tNil) := by
  obtain ⟨f, fd, F, m, kp, b⟩ := D.ex
  exact pe_call0 F hr hg m kp b .nil hx hdb
end

/-! ### heaps -/
/-- all but a is as it was -/
def Off (a : Addr) (H H' : Hp) : Prop := ∀ b o, b ≠ a → H b = some o → H' b = some o
theorem Off.refl {a : Addr} (H : Hp) : Off a H H := fun _ _ _ h => h
theorem Off.trans {a : Addr} {H H1 H2 : Hp} (p : Off a H H1) (q : Off a H1 H2) : Off a H H2 := fun b o n h => q b o n (p b o n h)
theorem Off.of {a : Addr} {H H' : Hp} (s : Same H H') : Off a H H' := fun b o _ h => s b o h
theorem Off.upd {a : Addr} {H : Hp} {o : HO} : Off a H (upd H a o) := fun b u n h => by rw [upd_ne n]; exact h
theorem Off.at {a b : Addr} {H H' : Hp} {o u : HO} (f : Off a H H') (h : H b = some o) (ha : H a = some u) (ne : o ≠ u) : H' b = some o := f b o (ne_of h ha ne) h
theorem same_new {H : Hp} {p : Addr} {o : HO} (h : H p = none) : Same H (upd H p o) := fun b u e => by rw [upd_ne (ne_of_none e h)]; exact e
/-- a new object: its place, the heap from then on -/
theorem new_intro {H : Hp} {o : HO} {Q : VK} (h : ∀ p H1, H p = none → Same H H1 → H1 p = some o → Q (.ref p) H1) : ∀ p, H p = none → Q (.ref p) (upd H p o) := fun p hp => h p _ hp (same_new hp) upd_same
theorem Same.rd {H H' : Hp} {a : Addr} {u : HO} (s : Same H H') (h : Rd H a u) : Rd H' a u := by
  rcases h with h | ⟨o, h⟩
  · exact .inl (s _ _ h)
  · exact .inr ⟨o, s _ _ h⟩
theorem Same.seqT {K : PySem.W.Frag} {H H' : Hp} {a : Addr} {xs : List V} (e : Same H H') (h : SqT K H a xs) : SqT K H' a xs := by
  rcases h with h | h
  · exact .inl (Same.rd e h)
  · exact .inr h
theorem seq_of {K : PySem.W.Frag} {H : Hp} {a : Addr} {xs : List V} (h : H a = some (.lst xs)) : SqL K H a xs := .inl (.inl h)
theorem seqT_of {K : PySem.W.Frag} {H : Hp} {a : Addr} {xs : List V} (h : H a = some (.tup xs)) : SqT K H a xs := .inl (.inl h)
theorem Off.seq {K : PySem.W.Frag} {a b : Addr} {H H' : Hp} {xs ys : List V} (f : Off a H H') (h : SqL K H b xs) (ha : H a = some (.lst ys)) (hb : b ≠ a) : SqL K H' b xs := by
  rcases h with (h | ⟨o, h⟩) | h
  · exact .inl (.inl (f _ _ hb h))
  · exact .inl (.inr ⟨o, f _ _ hb h⟩)
  · exact .inr h
theorem Off.frz {a b : Addr} {H H' : Hp} {o : Obj} {u : HO} {ys : List V} (f : Off a H H') (h : H b = some (.frz o u)) (ha : H a = some (.lst ys)) : H' b = some (.frz o u) := f.at h ha (by intro z; cases z)
/-- made since H, changed as one likes -/
theorem Same.mut {H H' : Hp} {p : Addr} {o : HO} (s : Same H H') (h : H p = none) : Same H (upd H' p o) := fun b u e => by rw [upd_ne (ne_of_none e h)]; exact s b u e
theorem Same.off {a : Addr} {H H1 H2 : Hp} (s : Same H H1) (h : H a = none) (f : Off a H1 H2) : Same H H2 := fun b u e => f b u (ne_of_none e h) (s b u e)
theorem none_back {H H' : Hp} {p : Addr} (s : Same H H') (h : H' p = none) : H p = none := s.free h
theorem Off.none {a p : Addr} {H H' : Hp} {u : HO} (f : Off a H H') (ha : H a = some u) (ha' : H' p = Option.none) (h' : ∃ o, H' a = some o) : H p = Option.none := by
  cases q : H p with
  | none => rfl
  | some o =>
    by_cases e : p = a
    · subst e
      obtain ⟨o', h'⟩ := h'
      rw [h'] at ha'; cases ha'
    · rw [f p o e q] at ha'; cases ha'
/-! ### what comes new, what is changed: told by letters -/
def New (H : Hp) (o : HO) (R : Addr → Hp → Prop) : Prop := ∀ p, H p = none → R p (upd H p o)
theorem New.intro {H : Hp} {o : HO} {R : Addr → Hp → Prop} (h : ∀ p H2, H p = none → Same H H2 → H2 p = some o → R p H2) : New H o R := fun p hp => h p _ hp (same_new hp) upd_same
def Upd (H : Hp) (a : Addr) (o : HO) (R : Hp → Prop) : Prop := R (upd H a o)
theorem Upd.intro {H : Hp} {a : Addr} {o : HO} {R : Hp → Prop} (h : ∀ H2, Off a H H2 → H2 a = some o → R H2) : Upd H a o R := h _ Off.upd upd_same
def Loop (J : It) (g : TG) (tb : TS) (D : Ends) (σ : L2.St) (H : Hp) : Prop := ∃ W : Nat → Nat → L2.St → Hp → Prop, (∃ m, W 0 m σ H) ∧ ∀ i m σ H, W i m σ H →
  (J.stop i H ∧ D.nx σ H) ∨ (J.go i H ∧ ∃ N : L2.St → Hp → Prop, (∀ σ' H', N σ' H' → ∃ m', m' < m ∧ W (i + 1) m' σ' H') ∧ ∀ x H', J.yld i H x H' → g x σ H' fun σ2 H2 => tb { D with nx := N, ct := N, bk := D.nx } σ2 H2)
def Cmp (J : It) (g : TG) (tt : TT) (te : TE) (vs : List Nat) (σ : L2.St) (H1 : Hp) (Q : VK) : Prop := ∀ D, H1 D = none → ∃ W : Nat → Nat → Hp → Prop, (∃ m, W 0 m (upd H1 D (.lst []))) ∧ ∀ i m H, W i m H →
  (J.stop i H ∧ Q (.ref D) H) ∨ (J.go i H ∧ ∃ Nx : Hp → Prop, (∀ H', Nx H' → ∃ m', m' < m ∧ W (i + 1) m' H') ∧ ∀ x H', J.yld i H x H' → g x (wipe σ vs) H' fun σ2 H2 => wipe σ2 vs = wipe σ vs ∧ tt σ2 H2 fun b H3 =>
    if b = true then te σ2 H3 fun y H4 => ∃ acc, H4 D = some (.lst acc) ∧ acc.length < sizeLine ∧ Nx (upd H4 D (.lst (acc ++ [y]))) else Nx H3)
theorem tTup_n {t : TA} : tTup t = fun σ H Q => t σ H fun xs H1 => xs.length ≤ sizeLine ∧ New H1 (.tup xs) fun p H2 => Q (.ref p) H2 := rfl
theorem tLst_n {t : TA} : tLst t = fun σ H Q => t σ H fun xs H1 => xs.length ≤ sizeLine ∧ New H1 (.lst xs) fun p H2 => Q (.ref p) H2 := rfl
theorem rSlL_n {K : PySem.W.Frag} : rSlL K = fun x lo hi H Q => ∃ a xs, x = .ref a ∧ SqL K H a xs ∧ New H (.lst (cutV xs lo hi)) fun p H2 => Q (.ref p) H2 := rfl
theorem rAppend_n : rAppend = fun x vs H Q => ∃ l xs y, x = .ref l ∧ vs = [y] ∧ H l = some (.lst xs) ∧ xs.length < sizeLine ∧ Upd H l (.lst (xs ++ [y])) fun H2 => Q .non H2 := rfl
theorem rExtend_n : rExtend = fun x vs H Q => ∃ l b xs zs, x = .ref l ∧ vs = [.ref b] ∧ H l = some (.lst xs) ∧ H b = some (.lst zs) ∧ xs.length + zs.length ≤ sizeLine ∧ Upd H l (.lst (xs ++ zs)) fun H2 => Q .non H2 := rfl
theorem rPop_n : rPop = fun x vs H Q => ∃ l xs y, x = .ref l ∧ vs = [] ∧ H l = some (.lst xs) ∧ xs[xs.length - 1]? = some y ∧ Upd H l (.lst xs.dropLast) fun H2 => Q y H2 := rfl
theorem rClear_n : rClear = fun x vs H Q => ∃ l xs, x = .ref l ∧ vs = [] ∧ H l = some (.lst xs) ∧ Upd H l (.lst []) fun H2 => Q .non H2 := rfl
theorem rSetL_n : rSetL = fun o i v H Q => ∃ p xs k j, o = .ref p ∧ i = .int k ∧ H p = some (.lst xs) ∧ ixN xs.length k = some j ∧ Upd H p (.lst (xs.set j v)) fun H2 => Q H2 := rfl
theorem tFor_n {wi : TI} {g : TG} {tb : TS} : tFor wi g tb = fun D σ H => wi σ H fun J H1 => Loop J g tb D σ H1 := rfl
theorem tLc_n {wi : TI} {g : TG} {tt : TT} {te : TE} {vs : List Nat} : tLc wi g tt te vs = fun σ H Q => wi σ H fun J H1 => Cmp J g tt te vs σ H1 Q := rfl
/-! built-ins, by letters -/
def rDivmod : List V → Hp → VK → Prop := fun xs H Q => ∃ i j, xs = [.int i, .int j] ∧ CDiv i j ∧ New H (.tup [.int (i / j), .int (i % j)]) fun p H2 => Q (.ref p) H2
theorem call_divmodR {X : Cx} : CallR X (.builtin "divmod") rDivmod := call_divmod
def rListOf (K : PySem.W.Frag) : List V → Hp → VK → Prop := fun xs H Q => ∃ p ys, xs = [.ref p] ∧ (SqL K H p ys ∨ SqT K H p ys) ∧ New H (.lst ys) fun l H2 => Q (.ref l) H2
theorem call_listR {X : Cx} {K : PySem.W.Frag} (h : X.K = K := by rfl) : CallR X (.type "list") (rListOf K) := by subst h; exact call_list_of
def rTupOf (K : PySem.W.Frag) : List V → Hp → VK → Prop := fun xs H Q => ∃ p ys, xs = [.ref p] ∧ ((SqL K H p ys ∧ New H (.tup ys) fun l H2 => Q (.ref l) H2) ∨ (SqT K H p ys ∧ Q (.ref p) H))
theorem call_tupR {X : Cx} {K : PySem.W.Frag} (h : X.K = K := by rfl) : CallR X (.type "tuple") (rTupOf K) := by subst h; exact call_tuple_of
def rLenSeq (K : PySem.W.Frag) : List V → Hp → VK → Prop := fun xs H Q => ∃ p ys, xs = [.ref p] ∧ (SqL K H p ys ∨ SqT K H p ys) ∧ Q (.int ys.length) H
theorem call_lenR {X : Cx} {K : PySem.W.Frag} (h : X.K = K := by rfl) : CallR X (.builtin "len") (rLenSeq K) := by subst h; exact call_len_seq
def rMin2 : List V → Hp → VK → Prop := fun xs H Q => ∃ i j, xs = [.int i, .int j] ∧ Q (.int (if j < i then j else i)) H
def rMax2 : List V → Hp → VK → Prop := fun xs H Q => ∃ i j, xs = [.int i, .int j] ∧ Q (.int (if j > i then j else i)) H
theorem call_min2R {X : Cx} (hc : X.calm = true) : CallR X (.builtin "min") rMin2 := call_min2 hc
theorem call_max2R {X : Cx} (hc : X.calm = true) : CallR X (.builtin "max") rMax2 := call_max2 hc

theorem snocI {α : Type} {P : List α → Prop} (h0 : P []) (h1 : ∀ xs x, P xs → P (xs ++ [x])) (l : List α) : P l := by
  have h : ∀ r : List α, P r.reverse := fun r => by
    induction r with
    | nil => exact h0
    | cons x r ih =>
      rw [List.reverse_cons]
      exact h1 _ _ ih
  rw [← List.reverse_reverse l]
  exact h _
/-! ### kinds of things -/
def kinds : List String := ["NoneType", "bool", "int", "str", "list", "tuple", "dict"]
def kindIs (T U : String) : Bool := T == U || (T == "bool" && U == "int")
theorem kd_all : ∀ T ∈ kinds, ∀ U ∈ ["bool", "int", "str", "list", "tuple", "dict"], kitB T U = some (kindIs T U) := by decide +kernel
def Thg (K : PySem.W.Frag) (H : Hp) (x : V) (T : String) : Prop := TyX K H x (.type T) ∧ T ∈ kinds
def isWh : V → Bool
  | .int _ => true
  | _ => false
theorem isi {K : PySem.W.Frag} {H : Hp} {x : V} {T U : String} {b : Bool} {R : Bool → Prop} (ty : TyX K H x (.type T)) (h : kitB T U = some b) (q : R b) : ∃ (t u : Value), ClsV (.ty U) u ∧ TyX K H x t ∧ ∃ b', PySem.W.kitOne K t u = some b' ∧ R b' :=
  ⟨_, _, .ty U, ty, b, kit_ty h, q⟩
/-- isinstance of any thing -/
theorem isiT {K : PySem.W.Frag} {H : Hp} {x : V} {T U : String} {R : Bool → Prop} (t : Thg K H x T) (hU : U ∈ ["bool", "int", "str", "list", "tuple", "dict"]) (q : R (kindIs T U)) : ∃ (t u : Value), ClsV (.ty U) u ∧ TyX K H x t ∧ ∃ b', PySem.W.kitOne K t u = some b' ∧ R b' :=
  isi t.1 (kd_all T t.2 U hU) q
theorem thg_int {K : PySem.W.Frag} {H : Hp} {i : Int} : Thg K H (.int i) "int" := ⟨.base (.int i), by decide⟩
theorem thg_bl {K : PySem.W.Frag} {H : Hp} {b : Bool} : Thg K H (.bl b) "bool" := ⟨.base (.bl b), by decide⟩
theorem thg_non {K : PySem.W.Frag} {H : Hp} : Thg K H .non "NoneType" := ⟨.base .non, by decide⟩
theorem thg_str {K : PySem.W.Frag} {H : Hp} {z : Str} : Thg K H (.str z) "str" := ⟨.base (.str z), by decide⟩
theorem thg_lst {K : PySem.W.Frag} {H : Hp} {a : Addr} {xs : List V} (h : H a = some (.lst xs)) : Thg K H (.ref a) "list" := ⟨.base (.lst h), by decide⟩
theorem thg_dK {K : PySem.W.Frag} {H : Hp} {a : Addr} {xs : List (Key × V)} (h : H a = some (.dK xs)) : Thg K H (.ref a) "dict" := ⟨.base (.dK h), by decide⟩
theorem thg_tup {K : PySem.W.Frag} {H : Hp} {a : Addr} {xs : List V} (h : SqT K H a xs) : Thg K H (.ref a) "tuple" := by
  refine ⟨?_, by decide⟩
  rcases h with (h | ⟨o, h⟩) | ⟨o, _, _, h, hc, _⟩
  · exact .base (.tup h)
  · exact .fTuple h
  · exact .kTuple h hc
theorem thg_seq {K : PySem.W.Frag} {H : Hp} {a : Addr} {xs : List V} (h : SqL K H a xs) : Thg K H (.ref a) "list" := by
  refine ⟨?_, by decide⟩
  rcases h with (h | ⟨o, h⟩) | ⟨o, _, _, h, hc, _⟩
  · exact .base (.lst h)
  · exact .base (.frz h)
  · exact .kList h hc
/-- whole numbers and no others are of the kind int alone -/
theorem isWh_of {K : PySem.W.Frag} {H : Hp} {x : V} {T : String} (t : Thg K H x T) : (kindIs T "int" && !kindIs T "bool") = isWh x := by
  obtain ⟨ty, hT⟩ := t
  generalize hc : Value.type T = c at ty
  cases ty with
  | base b =>
    cases b with
    | ins e cl ha hn htk hm => cases hc
    | _ => cases hc; rfl
  | byt b =>
    cases hc
    exact absurd hT (by decide)
  | set e =>
    cases hc
    exact absurd hT (by decide)
  | kList e c => cases hc; rfl
  | kTuple e c => cases hc; rfl
  | kDict e c => cases hc; rfl
  | fTuple e => cases hc; rfl
  | fDict e => cases hc; rfl
/-! ### constants of the module -/
theorem pe_gi {X : Cx} {x : Str} {v : Int} {pos : Pos} (hg : Gl X x) (hm : ∃ t, X.mg x = some (.int v t)) (hd : (x == ("__debug__" : Str)) = false := by decide) : PE X (.Name x pos) (tC (.int v)) := by
  obtain ⟨t, hm⟩ := hm
  exact pe_glob hg hm ⟨t, rfl⟩ hd
theorem pe_gs {X : Cx} {x v : Str} {pos : Pos} (hg : Gl X x) (hm : ∃ t, X.mg x = some (.str v t)) (hd : (x == ("__debug__" : Str)) = false := by decide) : PE X (.Name x pos) (tC (.str v)) := by
  obtain ⟨t, hm⟩ := hm
  exact pe_glob hg hm ⟨t, rfl⟩ hd
/-! ### tuples in a list -/
def Tups (K : PySem.W.Frag) (H : Hp) : List V → List (List V) → Prop := Paired fun x d => ∃ a, x = .ref a ∧ SqT K H a d
theorem Tups.same {K : PySem.W.Frag} {H H' : Hp} {xs : List V} {ds : List (List V)} (t : Tups K H xs ds) (s : Same H H') : Tups K H' xs ds := Paired.mapP t fun x d ⟨a, e, h⟩ => ⟨a, e, Same.seqT s h⟩
theorem Tups.get {K : PySem.W.Frag} {H : Hp} : ∀ {xs : List V} {ds : List (List V)} {i : Nat} {x : V}, Tups K H xs ds → xs[i]? = some x → ∃ a d, ds[i]? = some d ∧ x = .ref a ∧ SqT K H a d
  | _, _, _, _, .nil, e => by simp at e
  | _, _, 0, _, .cons ⟨a, e1, h⟩ _, e => by
    cases e
    exact ⟨a, _, rfl, e1, h⟩
  | _, _, i + 1, x, .cons _ t, e => Tups.get (i := i) t (by simpa using e)
theorem Tups.append {K : PySem.W.Frag} {H : Hp} : ∀ {xs ys : List V} {ds es : List (List V)}, Tups K H xs ds → Tups K H ys es → Tups K H (xs ++ ys) (ds ++ es)
  | _, _, _, _, .nil, s => s
  | _, _, _, _, .cons r t, s => .cons r (Tups.append t s)
theorem Tups.take {K : PySem.W.Frag} {H : Hp} : ∀ {xs : List V} {ds : List (List V)} (n : Nat), Tups K H xs ds → Tups K H (xs.take n) (ds.take n)
  | _, _, 0, _ => .nil
  | _, _, _ + 1, .nil => .nil
  | _, _, n + 1, .cons r t => .cons r (Tups.take n t)
theorem Tups.len {K : PySem.W.Frag} {H : Hp} {xs : List V} {ds : List (List V)} (t : Tups K H xs ds) : xs.length = ds.length := Paired.length t
theorem SqT.off {K : PySem.W.Frag} {H H' : Hp} {D a : Addr} {xs ys : List V} (f : Off D H H') (hD : H D = some (.lst ys)) (h : SqT K H a xs) : SqT K H' a xs := by
  rcases h with (h | ⟨o, h⟩) | h
  · exact .inl (.inl (f.at h hD (by intro z; cases z)))
  · exact .inl (.inr ⟨o, f.at h hD (by intro z; cases z)⟩)
  · exact .inr h
theorem Tups.off {K : PySem.W.Frag} {H H' : Hp} {D : Addr} {xs ys : List V} {ds : List (List V)} (t : Tups K H xs ds) (f : Off D H H') (hD : H D = some (.lst ys)) : Tups K H' xs ds := Paired.mapP t fun x d ⟨a, e, h⟩ => ⟨a, e, SqT.off f hD h⟩
theorem SqL.off {K : PySem.W.Frag} {H H' : Hp} {D a : Addr} {xs : List V} (f : Off D H H') (n : a ≠ D) (h : SqL K H a xs) : SqL K H' a xs := by
  rcases h with (h | ⟨o, h⟩) | h
  · exact .inl (.inl (f _ _ n h))
  · exact .inl (.inr ⟨o, f _ _ n h⟩)
  · exact .inr h
theorem sz100 {n : Nat} (h : n ≤ 100000) : n ≤ sizeLine := Nat.le_trans h (by decide)
theorem sz100l {n : Nat} (h : n < 100000) : n < sizeLine := Nat.lt_of_lt_of_le h (by decide)
theorem head_int (ns : List Int) (m : Int) : ∃ z, atI (ns.map V.int ++ [.int m]) 0 = some (.int z) := by
  cases ns with
  | nil => exact ⟨m, rfl⟩
  | cons z r => exact ⟨z, atI_nat (j := 0) rfl⟩
theorem last_int {l : List Int} {z : Int} (h : l[l.length - 1]? = some z) : atI (l.map V.int) (-1) = some (.int z) := by
  have ne : l ≠ [] := fun e => by
    rw [e] at h
    cases h
  have e1 := List.dropLast_concat_getLast ne
  have e2 : l.getLast ne = z := by
    rw [List.getLast_eq_getElem]
    rw [List.getElem?_eq_getElem (by cases l <;> simp at ne ⊢)] at h
    exact Option.some.inj h
  rw [← e1, List.map_append, e2]
  exact atI_last _ _
/-! ### the rules over a written part that is named: within a comprehension, too -/
section
variable {X : Cx} {K : PySem.W.Frag}
theorem ix_listK (h : X.K = K := by rfl) : IxR X (rIxL K) := by subst h; exact ix_list
theorem ix_tupK (h : X.K = K := by rfl) : IxR X (rIxT K) := by subst h; exact ix_tup
theorem sl_listK (h : X.K = K := by rfl) : SlR X (rSlL K) := by subst h; exact sl_list
theorem sl_tupK (h : X.K = K := by rfl) : SlR X (rSlT K) := by subst h; exact sl_tup
theorem op_in_seqK (h : X.K = K := by rfl) : OpR X (compareOp .In) (rIn K false) := by subst h; exact op_in_seq
theorem op_notIn_seqK (h : X.K = K := by rfl) : OpR X (compareOp .NotIn) (rIn K true) := by subst h; exact op_notIn_seq
theorem op_eqDK (hu : X.A.units + 64 < cLine) (h : X.K = K := by rfl) : OpR X (compareOp .Eq) (rEqD K) := by subst h; exact op_eqD hu
theorem op_neDK (hu : X.A.units + 64 < cLine) (h : X.K = K := by rfl) : OpR X (compareOp .NotEq) (rNeD K) := by subst h; exact op_neD hu
theorem op_catTK (h : X.K = K := by rfl) : OpR X (binaryOp .Add) (rCatT K) := by subst h; exact op_catT
theorem call_isiK' (h : X.K = K := by rfl) : CallR X (.builtin "isinstance") (rIsi K) := by subst h; exact call_isi
theorem call_isiTK (h : X.K = K := by rfl) : CallR X (.builtin "isinstance") (rIsiT K) := by subst h; exact call_isiT
theorem cr_allK (hc : X.calm = true) (h : X.K = K := by rfl) : CallR X (.builtin "all") (rAll K) := by subst h; exact cr_all hc
theorem cr_anyK (hc : X.calm = true) (h : X.K = K := by rfl) : CallR X (.builtin "any") (rAny K) := by subst h; exact cr_any hc
theorem cr_sumK (hc : X.calm = true) (h : X.K = K := by rfl) : CallR X (.builtin "sum") (rSum K) := by subst h; exact cr_sum hc
theorem pi_listK {tg l : Expr} {tl : TE} (hl : PE X l tl) (h : X.K = K := by rfl) : PI X tg l (iList K tl) := by subst h; exact pi_list hl
theorem pi_tupK {tg l : Expr} {tl : TE} (hl : PE X l tl) (h : X.K = K := by rfl) : PI X tg l (iTup K tl) := by subst h; exact pi_tup hl
theorem pi_reversedK {tg e : Expr} {ta : TA} {p pos : Pos} (hg : Gl X "reversed") (hm : X.mg "reversed" = none) (ha : PA X [e] ta) (hs : starEach [e] X.env = [(false, eval e X.env)] := by rfl) (h : X.K = K := by rfl) : PI X tg (.Call (.Name "reversed" p) [e] [] pos) (iRev K ta) := by subst h; exact pi_reversed hg hm ha hs
theorem pe_bm0K {o : Expr} {to : TE} {name : Str} {apos cpos : Pos} {T id : String} {r : V → List V → Hp → VK → Prop} (pa : PlainAttrs T) (slot : Slot T name id) (hty : typeOf (.builtin id) = pure (.type "method_descriptor")) (hm : MtR X id r) (ho : PE X o to)
    (hbase : attributeBase o name X.env (eval o X.env) = eval o X.env := by rfl) (hline : (apos.endLine == cpos.line) = true := by rfl) (h : X.K = K := by rfl) : PE X (.Call (.Attribute o name apos) [] [] cpos) (tBM0 K T r to) := by subst h; exact pe_bm0 pa slot hty hm ho hbase hline
theorem pe_bmK {o e : Expr} {es : List Expr} {to : TE} {t : TA} {name : Str} {apos cpos : Pos} {T id : String} {r : V → List V → Hp → VK → Prop} (pa : PlainAttrs T) (slot : Slot T name id) (hty : typeOf (.builtin id) = pure (.type "method_descriptor")) (hm : MtR X id r) (ho : PE X o to) (ha : PA X (e :: es) t)
    (hbase : attributeBase o name X.env (eval o X.env) = eval o X.env := by rfl)
    (hfew : ((backTo cpos (starEach (e :: es) X.env)).all (fun x => !x.1) && (backToKw cpos (keywordEach [] X.env)).all (fun x => x.1.isSome)
      && decide ((e :: es).length + ([] : List Keyword).length + (if ([] : List Keyword).isEmpty then 0 else 1) < 30)) = true := by rfl)
    (hline : (apos.endLine == cpos.line) = true := by rfl) (hs : starEach (e :: es) X.env = (false, eval e X.env) :: starEach es X.env := by rfl) (hplain : (backTo cpos (starEach es X.env)).any (·.1) = false := by rfl) (h : X.K = K := by rfl) :
    PE X (.Call (.Attribute o name apos) (e :: es) [] cpos) (tBM K T r to t) := by subst h; exact pe_bm pa slot hty hm ho ha hbase hfew hline hs hplain
theorem mt_indexK (h : X.K = K := by rfl) : MtR X "list.index" (rIndex K) := by subst h; exact mt_index
theorem pi_enumK {e : Expr} {ta : TA} {p pos tpos : Pos} {elts : List Expr} {kk : Nat} (hg : Gl X "enumerate") (hm : X.mg "enumerate" = none) (ha : PA X [e] ta) (hs : starEach [e] X.env = [(false, eval e X.env)] := by rfl) (h : X.K = K := by rfl) :
    PI X (.Tuple elts kk tpos) (.Call (.Name "enumerate" p) [e] [] pos) (iEnum K ta) := by subst h; exact pi_enum hg hm ha hs
theorem pi_zipK {e e2 : Expr} {ta : TA} {p pos tpos : Pos} {elts : List Expr} {kk : Nat} (hg : Gl X "zip") (hm : X.mg "zip" = none) (ha : PA X [e, e2] ta)
    (hs : starEach [e, e2] X.env = (false, eval e X.env) :: starEach [e2] X.env := by rfl) (hpl : (backTo pos (starEach [e2] X.env)).any (·.1) = false := by rfl) (h : X.K = K := by rfl) :
    PI X (.Tuple elts kk tpos) (.Call (.Name "zip" p) [e, e2] [] pos) (iZip K ta) := by subst h; exact pi_zip hg hm ha hs hpl
theorem pe_fldK {e : Expr} {f : Str} {pos : Pos} {ta : TE} (he : PE X e ta) (hb : attributeBase e f X.env (eval e X.env) = eval e X.env) (h : X.K = K := by rfl) : PE X (.Attribute e f pos) (tFld K ta f) := by subst h; exact pe_fld he hb
end

/-! ### ranges of ints of any size, walked -/
theorem turn_long {P : Program} {w : World} {K : PySem.W.Frag} {tg : Expr} (it : Addr) (lo : Int) (n : Nat) : Turn P w K tg (Itr lo n) [it] it (fun i h => IsLongIter h it (lo + (i : Nat) * 1) ((n : Int) - (i : Nat)) 1) where
  mem := by simp
  obj := fun i h st b hb => by
    have e : b = it := by simpa using hb
    subst e
    exact ⟨_, st, fun v z => by
      have z' : Data.fields _ = Data.cell v := z
      cases z'⟩
  keep := fun i h h' st k => k it (by simp) _ st
  item := by
    intro X hP hw hK hc i pins s σ H E I hf st hg
    subst hP hw hK
    obtain ⟨f0, f1, f2, f3, f4, f5⟩ := hf it (by simp)
    have W := Walks.longrange (prog := X.prog) (w := X.w) (I.ok.hd hc) it lo 1 n
    refine W.item i s _ _ hg st fun v h' tk hv st' kk => ?_
    obtain ⟨t, rfl⟩ := hv
    have I1 : Inv X pins σ H { s with heap := h', toks := tk } := I.turned (fun b o hb e => kk b o (by simpa using hb) e) f0 f1 f3 f4 f5
    refine ⟨_, rfl, go_of (s := { s with heap := h', toks := tk }) (n := "longrange_iterator") st' rfl rfl (by decide) ⟨.int (lo + i), H, I1, ⟨t, ?_⟩, ⟨rfl, rfl⟩, st', fun b hb => (hf b hb).1⟩⟩
    rw [Int.mul_one]
  done := by
    intro X hP hw hK hc i pins s σ H E I hf st hg
    subst hP hw hK
    obtain ⟨f0, f1, f2, f3, f4, f5⟩ := hf it (by simp)
    exact wpAny_pyNext_long_end (I.ok.hd hc) st (by have : n ≤ i := hg; omega) fun h' eb => ⟨rfl, I.turned (t' := s.toks) (fun b o hb e => eb b o hb e) f0 f1 f3 f4 f5⟩
  self := fun _ _ _ _ _ st h => wpAny_pyIter_longiter st h
theorem range_itL {X : Cx} {tg : Expr} {pins : List (Addr × Obj)} {σ : L2.St} {H : Hp} {s : Shared} {R : It → Hp → Prop} {E : Value → Shared → Prop} {lo hi : Int} {t u v : Tok} {tk : Nat} (I : Inv X pins σ H s)
    (q : R (Itr lo (hi - lo).toNat) H) : wpAny (model X.prog X.w) X.A (pyIter (.ref s.heap.objs.size)) (PIE X pins σ tg R) E { s with heap := s.heap.push { cls := .type "range", data := .fields #[.int lo t, .int hi u, .int 1 v] }, toks := tk } := by
  have I1 : Inv X pins σ H { s with heap := s.heap.push { cls := .type "range", data := .fields #[.int lo t, .int hi u, .int 1 v] }, toks := tk } := I.kept fun b o e => Heap.get?_push_of_some _ e
  have e1 : lo + ((0 : Nat) : Int) * 1 = lo := by simp
  have e2 : (((hi - lo).toNat : Nat) : Int) - ((0 : Nat) : Int) = Builtin.Range.rangeSize lo hi 1 := by rw [rangeSize_one]; split <;> omega
  cases hs : Builtin.Range.small lo hi 1 with
  | true =>
    refine wpAny_pyIter_range (IsRange.new ..) hs ?_
    refine ⟨(s.heap.push { cls := .type "range", data := .fields #[.int lo t, .int hi u, .int 1 v] }).objs.size, [(s.heap.push { cls := .type "range", data := .fields #[.int lo t, .int hi u, .int 1 v] }).objs.size], _, _, H, rfl,
      I1.kept (t' := tk) fun b o e => Heap.get?_push_of_some _ e, turn_range _ lo (hi - lo).toNat, ?_, fun b hb => ?_, q⟩
    · show IsRangeIter _ _ (lo + ((0 : Nat) : Int) * 1) ((((hi - lo).toNat : Nat) : Int) - ((0 : Nat) : Int)) 1
      rw [e1, e2]
      exact Heap.get?_push_size _ rfl
    · have e : b = (s.heap.push { cls := .type "range", data := .fields #[.int lo t, .int hi u, .int 1 v] }).objs.size := by simpa using hb
      subst e
      exact I1.fpOk (Nat.le_refl _) (I1.hok.fresh (Nat.le_refl _))
  | false =>
    refine wpAny_pyIter_longrange (IsRange.new ..) hs ?_
    refine ⟨(s.heap.push { cls := .type "range", data := .fields #[.int lo t, .int hi u, .int 1 v] }).objs.size, [(s.heap.push { cls := .type "range", data := .fields #[.int lo t, .int hi u, .int 1 v] }).objs.size], _, _, H, rfl,
      I1.kept (t' := tk) fun b o e => Heap.get?_push_of_some _ e, turn_long _ lo (hi - lo).toNat, ?_, fun b hb => ?_, q⟩
    · show IsLongIter _ _ (lo + ((0 : Nat) : Int) * 1) ((((hi - lo).toNat : Nat) : Int) - ((0 : Nat) : Int)) 1
      rw [e1, e2]
      exact Heap.get?_push_size _ rfl
    · have e : b = (s.heap.push { cls := .type "range", data := .fields #[.int lo t, .int hi u, .int 1 v] }).objs.size := by simpa using hb
      subst e
      exact I1.fpOk (Nat.le_refl _) (I1.hok.fresh (Nat.le_refl _))
def iRngL1 (ta : TA) : TI := fun σ H R => ta σ H fun vs H1 => ∃ j : Int, vs = [.int j] ∧ R (Itr 0 j.toNat) H1
def iRngL2 (ta : TA) : TI := fun σ H R => ta σ H fun vs H1 => ∃ i j : Int, vs = [.int i, .int j] ∧ R (Itr i (j - i).toNat) H1
theorem pi_rangeL1 {X : Cx} {tg : Expr} {a : Expr} {ta : TA} {p pos : Pos} (hg : Gl X "range") (hm : X.mg "range" = none) (ha : PA X [a] ta) (hs : starEach [a] X.env = [(false, eval a X.env)] := by rfl) : PI X tg (.Call (.Name "range" p) [a] [] pos) (iRngL1 ta) := by
  refine ⟨fun pins s σ H R I h => ?_⟩
  refine Call_ (ld_blt I hg hm boot_range (PyProof.Rows.callWith_type1 (thn (ha.run pos pins s σ H _ I h) fun us s1 ⟨vs, H1, I1, r1, q1⟩ => ?_) hs rfl))
  obtain ⟨j, e, q⟩ := q1
  subst e
  cases r1 with
  | cons r rr =>
    cases rr
    obtain ⟨t, rfl⟩ := r
    exact call_range_1 (range_itL I1 (by simpa using q))
theorem pi_rangeL2 {X : Cx} {tg : Expr} {a b : Expr} {ta : TA} {p pos : Pos} (hg : Gl X "range") (hm : X.mg "range" = none) (ha : PA X [a, b] ta) (hs : starEach [a, b] X.env = [(false, eval a X.env), (false, eval b X.env)] := by rfl) (hs2 : starEach [b] X.env = [(false, eval b X.env)] := by rfl) :
    PI X tg (.Call (.Name "range" p) [a, b] [] pos) (iRngL2 ta) := by
  refine ⟨fun pins s σ H R I h => ?_⟩
  refine Call_ (ld_blt I hg hm boot_range (PyProof.Rows.callWith_type1 (thn (ha.run pos pins s σ H _ I h) fun us s1 ⟨vs, H1, I1, r1, q1⟩ => ?_) (by rw [hs, hs2]) (by rw [hs2]; rfl)))
  obtain ⟨i, j, e, q⟩ := q1
  subst e
  cases r1 with
  | cons r rr =>
    cases rr with
    | cons r' rr =>
      cases rr
      obtain ⟨t, rfl⟩ := r
      obtain ⟨t', rfl⟩ := r'
      exact call_range_2 (range_itL I1 q)
/-! ### objects of own classes -/
structure Mn (P : Program) (w : World) (K : PySem.W.Frag) (mg : Str → Option Value) (base : Heap) (CX : CXT) (k : Nat) (C : Addr) (x : Str) (ps : List Str) (sp : Sp) : Prop where
  ex : ∃ f fd, Mk K C f ∧ FnOk P w K mg base CX k f fd ps sp ∧ mg x = some (.ref C) ∧ Binds K fd ps []
structure Nn (P : Program) (w : World) (K : PySem.W.Frag) (mg : Str → Option Value) (base : Heap) (CX : CXT) (k : Nat) (C : Addr) (m : Str) (ps : List Str) (sp : Sp) : Prop where
  cl : Cls K C
  ex : ∃ f fd, Meth K C m f ∧ FnOk P w K mg base CX k f fd ps sp ∧ Binds K fd ps []
section
variable {X : Cx} {CX : CXT} {k : Nat} {C : Addr} {ps : List Str} {sp : Sp} {E : XK} {x m : Str} {p pos apos : Pos} {e o : Expr} {es : List Expr} {t : TA} {ta : TE}
theorem pe_mk (M : Mn X.prog X.w X.K X.mg X.base CX k C x ps sp) (hr : Room (k + 1) X.A) (hg : Gl X x) (hx : Passes CX X E) (ha : PA X (e :: es) t)
    (hdb : (x == ("__debug__" : Str)) = false := by decide) (he : starEach (e :: es) X.env = (false, eval e X.env) :: starEach es X.env := by rfl) (hpl : (backTo pos (starEach es X.env)).any (·.1) = false := by rfl) :
    PE X (.Call (.Name x p) (e :: es) [] pos) (tMake C sp [] E t) := by
  obtain ⟨f, fd, mk, F, hm, b⟩ := M.ex
  exact pe_make mk F hr hg hm b .nil hx ha hdb he hpl
theorem pe_mk0 (M : Mn X.prog X.w X.K X.mg X.base CX k C x ps sp) (hr : Room (k + 1) X.A) (hg : Gl X x) (hx : Passes CX X E)
    (hdb : (x == ("__debug__" : Str)) = false := by decide) : PE X (.Call (.Name x p) [] [] pos) (tMake C sp [] E tNil) := by
  obtain ⟨f, fd, mk, F, hm, b⟩ := M.ex
  exact pe_make0 mk F hr hg hm b .nil hx hdb
theorem pe_md {pl : Sem Bool} (ho : PE X o ta) (N : Nn X.prog X.w X.K X.mg X.base CX k C m ps sp) (hr : Room k X.A) (hx : Passes CX X E) (ha : PA X (e :: es) t)
    (hst : starEach (e :: es) X.env = (false, eval e X.env) :: starEach es X.env := by rfl) (hpl : (backTo pos (starEach es X.env)).any (·.1) = false := by rfl)
    (ht : eval (.Call (.Attribute o m apos) (e :: es) [] pos) X.env = (do
      let ov ← eval o X.env
      standAt apos.atName
      let (f, first) ← holding [ov] (getMethod ov m pl)
      callWith pos f first (backTo pos (starEach (e :: es) X.env)) (backToKw pos (keywordEach [] X.env))) := by rfl) : PE X (.Call (.Attribute o m apos) (e :: es) [] pos) (tMeth C m sp [] E ta t) := by
  obtain ⟨f, fd, hm, F, b⟩ := N.ex
  exact pe_meth ho N.cl hm F hr b .nil hx ha hst hpl ht
theorem pe_md0 {pl : Sem Bool} (ho : PE X o ta) (N : Nn X.prog X.w X.K X.mg X.base CX k C m ps sp) (hr : Room k X.A) (hx : Passes CX X E)
    (ht : eval (.Call (.Attribute o m apos) [] [] pos) X.env = (do
      let ov ← eval o X.env
      standAt apos.atName
      let (f, first) ← holding [ov] (getMethod ov m pl)
      callWith pos f first (backTo pos (starEach [] X.env)) (backToKw pos (keywordEach [] X.env))) := by rfl) : PE X (.Call (.Attribute o m apos) [] [] pos) (tMeth C m sp [] E ta tNil) := by
  obtain ⟨f, fd, hm, F, b⟩ := N.ex
  exact pe_meth0 ho N.cl hm F hr b .nil hx ht
end
def Made (H : Hp) (C : Addr) (R : Addr → Hp → Prop) : Prop := ∀ x dx, H x = none → H dx = none → dx ≠ x → R x (upd (upd H dx (.own x)) x (.ins C dx []))
theorem Made.intro {H : Hp} {C : Addr} {R : Addr → Hp → Prop} (h : ∀ x dx H2, H x = none → Same H H2 → H2 x = some (.ins C dx []) → R x H2) : Made H C R := fun x dx hx hd ne =>
  h x dx _ hx (fun b o e => by rw [upd_ne (ne_of_none e hx), upd_ne (ne_of_none e hd)]; exact e) upd_same
theorem tMake_n {C : Addr} {sp : Sp} {dvs : List V} {E : XK} {t : TA} : tMake C sp dvs E t = fun σ H Q => t σ H fun vs H1 => Made H1 C fun x H2 => sp (.ref x :: (vs ++ dvs)) H2 (fun v H3 => v = .non ∧ Q (.ref x) H3) E := rfl
theorem sFld_n {K : PySem.W.Frag} {ta tv : TE} {f : Str} : sFld K ta tv f = fun D σ H => tv σ H fun y H1 => ta σ H1 fun x H2 => ∃ a C dx fs, x = .ref a ∧ H2 a = some (.ins C dx fs) ∧ Cls K C ∧ NoAttr K C f ∧ fs.length < 1000 ∧
  Upd H2 a (.ins C dx (putF f y fs)) fun H3 => D.nx σ H3 := rfl
theorem ps_fldK {X : Cx} {K : PySem.W.Frag} {o value : Expr} {f : Str} {pos pos' : Pos} {ta tv : TE} (ha : PE X o ta) (hv : PE X value tv) (hs : swapsWith value (some (.Attribute o f pos')) pos.line X.env = pure false) (h : X.K = K := by rfl) : PS X (.Assign [.Attribute o f pos'] value pos) (sFld K ta tv f) := by subst h; exact ps_fld ha hv hs
theorem lk0 {f : Str} {v : V} {r : List (Str × V)} : List.lookup f ((f, v) :: r) = some v := by simp [List.lookup]
theorem lk1 {f g : Str} {v : V} {r : List (Str × V)} {o : Option V} (h : (g == f) = false) (k : List.lookup g r = o) : List.lookup g ((f, v) :: r) = o := by
  rw [List.lookup_cons, h]
  exact k
theorem putF0 {f : Str} {v x : V} {r : List (Str × V)} : putF f v ((f, x) :: r) = (f, v) :: r := by
  unfold putF
  rw [if_pos rfl]
theorem putF1 {f g : Str} {v x : V} {r : List (Str × V)} (h : ¬ g = f) : putF f v ((g, x) :: r) = (g, x) :: putF f v r := by
  show (if g = f then _ else _) = _
  rw [if_neg h]
def rInsert : V → List V → Hp → VK → Prop := fun x vs H Q => ∃ (l : Addr) (xs : List V) (i : Int) (y : V), x = .ref l ∧ vs = [.int i, y] ∧ H l = some (.lst xs) ∧ xs.length < sizeLine ∧ 0 ≤ i ∧ i < 2 ^ 63 ∧ Upd H l (.lst (xs.take i.toNat ++ [y] ++ xs.drop i.toNat)) fun H2 => Q .non H2
theorem mt_insertR {X : Cx} : MtR X "list.insert" rInsert := mt_insert
theorem rRemI_n : rRemI = fun x xs H Q => ∃ (l : Addr) (ns : List Int) (k : Int) (j : Nat), x = V.ref l ∧ xs = [V.int k] ∧ H l = some (.lst (ns.map V.int)) ∧ ns[j]? = some k ∧ (∀ m : Nat, m < j → ns[m]? ≠ some k) ∧ Upd H l (.lst ((ns.eraseIdx j).map V.int)) fun H2 => Q .non H2 := rfl
theorem inV_int (n : Int) : ∀ ns : List Int, inV (.int n) (ns.map V.int) = decide (n ∈ ns)
  | [] => rfl
  | a :: r => by
    have e : inV (.int n) ((a :: r).map V.int) = (eqV (.int a) (.int n) || inV (.int n) (r.map V.int)) := rfl
    rw [e, inV_int n r]
    have e2 : eqV (.int a) (.int n) = decide (a = n) := by
      unfold eqV
      rfl
    rw [e2]
    by_cases h : a = n
    · subst h
      simp
    · simp [h, Ne.symm h]
theorem flat_ints : ∀ ns : List Int, (ns.map V.int).all flatV = true
  | [] => rfl
  | _ :: r => flat_ints r

/-! ### loops by an invariant -/
theorem Loop.list {K : PySem.W.Frag} {a : Addr} {xs : List V} {g : TG} {tb : TS} {D : Ends} {σ : L2.St} {H : Hp} (Pv : Nat → L2.St → Hp → Prop) (h0 : Pv 0 σ H) (hl : ∀ i σ H, i ≤ xs.length → Pv i σ H → SqL K H a xs)
    (hs : ∀ i x σ H, xs[i]? = some x → Pv i σ H → g x σ H fun σ2 H2 => tb { D with nx := Pv (i + 1), ct := Pv (i + 1), bk := D.nx } σ2 H2) (hd : ∀ σ H, Pv xs.length σ H → D.nx σ H) : Loop (Itl K a) g tb D σ H := for_list Pv h0 hl hs hd
theorem Loop.tup {K : PySem.W.Frag} {a : Addr} {xs : List V} {g : TG} {tb : TS} {D : Ends} {σ : L2.St} {H : Hp} (Pv : Nat → L2.St → Hp → Prop) (h0 : Pv 0 σ H) (hl : ∀ i σ H, i ≤ xs.length → Pv i σ H → SqT K H a xs)
    (hs : ∀ i x σ H, xs[i]? = some x → Pv i σ H → g x σ H fun σ2 H2 => tb { D with nx := Pv (i + 1), ct := Pv (i + 1), bk := D.nx } σ2 H2) (hd : ∀ σ H, Pv xs.length σ H → D.nx σ H) : Loop (Itt K a) g tb D σ H := for_tup Pv h0 hl hs hd
theorem Loop.range {lo : Int} {n : Nat} {g : TG} {tb : TS} {D : Ends} {σ : L2.St} {H : Hp} (Pv : Nat → L2.St → Hp → Prop) (h0 : Pv 0 σ H)
    (hs : ∀ i σ H, i < n → Pv i σ H → g (.int (lo + i)) σ H fun σ2 H2 => tb { D with nx := Pv (i + 1), ct := Pv (i + 1), bk := D.nx } σ2 H2) (hd : ∀ σ H, Pv n σ H → D.nx σ H) : Loop (Itr lo n) g tb D σ H := for_range Pv h0 hs hd
theorem Loop.rev {K : PySem.W.Frag} {a : Addr} {xs : List V} {n : Nat} {g : TG} {tb : TS} {D : Ends} {σ : L2.St} {H : Hp} (hn : n = xs.length) (Pv : Nat → L2.St → Hp → Prop) (h0 : Pv 0 σ H) (hl : ∀ i σ H, i ≤ xs.length → Pv i σ H → SqL K H a xs)
    (hs : ∀ i x σ H, xs[xs.length - 1 - i]? = some x → i < xs.length → Pv i σ H → g x σ H fun σ2 H2 => tb { D with nx := Pv (i + 1), ct := Pv (i + 1), bk := D.nx } σ2 H2) (hd : ∀ σ H, Pv xs.length σ H → D.nx σ H) : Loop (Itv K a n) g tb D σ H := by
  subst hn
  refine ⟨fun i m σ H => m = xs.length - i ∧ i ≤ xs.length ∧ Pv i σ H, ⟨xs.length, by simp, Nat.zero_le _, h0⟩, ?_⟩
  rintro i m σ H ⟨rfl, hi, p⟩
  have q := hl i σ H hi p
  by_cases hlt : i < xs.length
  · have hx : xs.length - 1 - i < xs.length := by omega
    refine .inr ⟨⟨hlt, xs, xs[xs.length - 1 - i], q, by simp [hx]⟩, Pv (i + 1), fun σ' H' p' => ⟨xs.length - (i + 1), by omega, rfl, hlt, p'⟩, fun x H' y => ?_⟩
    obtain ⟨e, y⟩ := y
    subst e
    exact hs i x σ _ (y xs q) hlt p
  · have e : i = xs.length := by omega
    subst e
    exact .inl ⟨Nat.le_refl _, hd σ H p⟩
theorem Loop.enum {K : PySem.W.Frag} {a : Addr} {xs : List V} {g : TG} {tb : TS} {D : Ends} {σ : L2.St} {H : Hp} (Pv : Nat → L2.St → Hp → Prop) (h0 : Pv 0 σ H) (hl : ∀ i σ H, i ≤ xs.length → Pv i σ H → SqL K H a xs)
    (hs : ∀ i x σ H T H1, xs[i]? = some x → Pv i σ H → H T = none → Same H H1 → H1 T = some (.tup [.int (i : Nat), x]) → g (.ref T) σ H1 fun σ2 H2 => tb { D with nx := Pv (i + 1), ct := Pv (i + 1), bk := D.nx } σ2 H2) (hd : ∀ σ H, Pv xs.length σ H → D.nx σ H) : Loop (Ite K a) g tb D σ H := by
  refine ⟨fun i m σ H => m = xs.length - i ∧ i ≤ xs.length ∧ Pv i σ H, ⟨xs.length, by simp, Nat.zero_le _, h0⟩, ?_⟩
  rintro i m σ H ⟨rfl, hi, p⟩
  have q := hl i σ H hi p
  by_cases hlt : i < xs.length
  · refine .inr ⟨⟨xs, xs[i], q, by simp [hlt]⟩, Pv (i + 1), fun σ' H' p' => ⟨xs.length - (i + 1), by omega, rfl, hlt, p'⟩, fun v H' y => ?_⟩
    obtain ⟨T, x, rfl, nT, rfl, f⟩ := y
    exact hs i x σ H T _ (f xs q) p nT (same_new nT) upd_same
  · have e : i = xs.length := by omega
    subst e
    exact .inl ⟨⟨xs, q, Nat.le_refl _⟩, hd σ H p⟩
theorem Loop.zip {K : PySem.W.Frag} {a b : Addr} {xs ys : List V} {g : TG} {tb : TS} {D : Ends} {σ : L2.St} {H : Hp} (hn : xs.length = ys.length) (Pv : Nat → L2.St → Hp → Prop) (h0 : Pv 0 σ H) (hl : ∀ i σ H, i ≤ xs.length → Pv i σ H → SqL K H a xs ∧ SqL K H b ys)
    (hs : ∀ i x y σ H T H1, xs[i]? = some x → ys[i]? = some y → Pv i σ H → H T = none → Same H H1 → H1 T = some (.tup [x, y]) → g (.ref T) σ H1 fun σ2 H2 => tb { D with nx := Pv (i + 1), ct := Pv (i + 1), bk := D.nx } σ2 H2) (hd : ∀ σ H, Pv xs.length σ H → D.nx σ H) : Loop (Itz K a b) g tb D σ H := by
  refine ⟨fun i m σ H => m = xs.length - i ∧ i ≤ xs.length ∧ Pv i σ H, ⟨xs.length, by simp, Nat.zero_le _, h0⟩, ?_⟩
  rintro i m σ H ⟨rfl, hi, p⟩
  have q := hl i σ H hi p
  by_cases hlt : i < xs.length
  · refine .inr ⟨⟨xs, ys, xs[i], ys[i]'(by omega), q.1, q.2, by simp [hlt], by simp [show i < ys.length by omega]⟩, Pv (i + 1), fun σ' H' p' => ⟨xs.length - (i + 1), by omega, rfl, hlt, p'⟩, fun v H' y => ?_⟩
    obtain ⟨T, x, y, rfl, nT, rfl, f1, f2⟩ := y
    exact hs i x y σ H T _ (f1 xs q.1) (f2 ys q.2) p nT (same_new nT) upd_same
  · have e : i = xs.length := by omega
    subst e
    exact .inl ⟨⟨xs, ys, q.1, q.2, .inl (Nat.le_refl _)⟩, hd σ H p⟩
theorem Loop.str {z : Str} {g : TG} {tb : TS} {D : Ends} {σ : L2.St} {H : Hp} (Pv : Nat → L2.St → Hp → Prop) (h0 : Pv 0 σ H)
    (hs : ∀ i c σ H, z.cps[i]? = some c → Pv i σ H → g (.str ⟨#[c]⟩) σ H fun σ2 H2 => tb { D with nx := Pv (i + 1), ct := Pv (i + 1), bk := D.nx } σ2 H2) (hd : ∀ σ H, Pv z.cps.size σ H → D.nx σ H) : Loop (Its z) g tb D σ H := by
  refine ⟨fun i m σ H => m = z.cps.size - i ∧ i ≤ z.cps.size ∧ Pv i σ H, ⟨z.cps.size, by simp, Nat.zero_le _, h0⟩, ?_⟩
  rintro i m σ H ⟨rfl, hi, p⟩
  by_cases hlt : i < z.cps.size
  · refine .inr ⟨hlt, Pv (i + 1), fun σ' H' p' => ⟨z.cps.size - (i + 1), by omega, rfl, hlt, p'⟩, fun x H' y => ?_⟩
    obtain ⟨e, c, hc, ex⟩ := y
    subst e ex
    exact hs i c σ _ hc p
  · have e : i = z.cps.size := by omega
    subst e
    exact .inl ⟨Nat.le_refl _, hd σ H p⟩

theorem int_at {ns : List Int} {i : Nat} {x : V} (h : (ns.map V.int)[i]? = some x) : ∃ z, ns[i]? = some z ∧ x = .int z := by
  rw [List.getElem?_map] at h
  cases e : ns[i]? with
  | none =>
    rw [e] at h
    cases h
  | some z =>
    rw [e] at h
    exact ⟨z, rfl, (Option.some.inj h).symm⟩
theorem at_int {ns : List Int} {i : Nat} {z : Int} (h : ns[i]? = some z) : (ns.map V.int)[i]? = some (.int z) := by
  rw [List.getElem?_map, h]
  rfl
theorem take_snoc {α : Type} {l : List α} {i : Nat} {x : α} (h : l[i]? = some x) : l.take (i + 1) = l.take i ++ [x] := by
  rw [List.take_add_one, h]
  rfl
theorem drop_at {α : Type} {l : List α} {i : Nat} {x : α} (h : l[i]? = some x) : l.drop i = x :: l.drop (i + 1) := by
  obtain ⟨hi, e⟩ := List.getElem?_eq_some_iff.mp h
  rw [List.drop_eq_getElem_cons hi, e]
theorem iteN {c A B : Prop} [Decidable c] (hc : ¬ c) (h : B) : if c then A else B := by
  rw [if_neg hc]
  exact h
theorem iteP {c A B : Prop} [Decidable c] (hc : c) (h : A) : if c then A else B := by
  rw [if_pos hc]
  exact h
/-! ### comprehensions -/
/-- what is made so far stands at D; the source stands; an element may change what it likes but D -/
theorem Cmp.list {K : PySem.W.Frag} {a : Addr} {xs : List V} {g : TG} {tt : TT} {te : TE} {vs : List Nat} {σ : L2.St} {H1 : Hp} {Q : VK} (Pv : Addr → Nat → List V → Hp → Prop)
    (h0 : ∀ D H2, H1 D = none → Same H1 H2 → H2 D = some (.lst []) → Pv D 0 [] H2) (hl : ∀ D i acc H, i ≤ xs.length → Pv D i acc H → SqL K H a xs)
    (hs : ∀ D i x acc H (Nx : Hp → Prop), xs[i]? = some x → acc.length ≤ i → Pv D i acc H → (∀ acc' H', acc'.length ≤ i + 1 → Pv D (i + 1) acc' H' → Nx H') → g x (wipe σ vs) H fun σ2 H2 => wipe σ2 vs = wipe σ vs ∧ tt σ2 H2 fun b H3 =>
      if b = true then te σ2 H3 fun y H4 => ∃ acc, H4 D = some (.lst acc) ∧ acc.length < sizeLine ∧ Nx (upd H4 D (.lst (acc ++ [y]))) else Nx H3) (hd : ∀ D acc H, acc.length ≤ xs.length → Pv D xs.length acc H → Q (.ref D) H) : Cmp (Itl K a) g tt te vs σ H1 Q := fun D nD =>
  lc_list (K := K) (a := a) (xs := xs) (fun i H => ∃ acc, acc.length ≤ i ∧ Pv D i acc H) ⟨[], Nat.zero_le _, h0 D _ nD (same_new nD) upd_same⟩ (fun i H hi ⟨acc, _, p⟩ => hl D i acc H hi p)
    (fun i x H hx ⟨acc, ha, p⟩ => hs D i x acc H _ hx ha p fun acc' H' h1 h2 => ⟨acc', h1, h2⟩) (fun H ⟨acc, ha, p⟩ => hd D acc H ha p)
theorem Cmp.tup {K : PySem.W.Frag} {a : Addr} {xs : List V} {g : TG} {tt : TT} {te : TE} {vs : List Nat} {σ : L2.St} {H1 : Hp} {Q : VK} (Pv : Addr → Nat → List V → Hp → Prop)
    (h0 : ∀ D H2, H1 D = none → Same H1 H2 → H2 D = some (.lst []) → Pv D 0 [] H2) (hl : ∀ D i acc H, i ≤ xs.length → Pv D i acc H → SqT K H a xs)
    (hs : ∀ D i x acc H (Nx : Hp → Prop), xs[i]? = some x → acc.length ≤ i → Pv D i acc H → (∀ acc' H', acc'.length ≤ i + 1 → Pv D (i + 1) acc' H' → Nx H') → g x (wipe σ vs) H fun σ2 H2 => wipe σ2 vs = wipe σ vs ∧ tt σ2 H2 fun b H3 =>
      if b = true then te σ2 H3 fun y H4 => ∃ acc, H4 D = some (.lst acc) ∧ acc.length < sizeLine ∧ Nx (upd H4 D (.lst (acc ++ [y]))) else Nx H3) (hd : ∀ D acc H, acc.length ≤ xs.length → Pv D xs.length acc H → Q (.ref D) H) : Cmp (Itt K a) g tt te vs σ H1 Q := fun D nD =>
  lc_tup (K := K) (a := a) (xs := xs) (fun i H => ∃ acc, acc.length ≤ i ∧ Pv D i acc H) ⟨[], Nat.zero_le _, h0 D _ nD (same_new nD) upd_same⟩ (fun i H hi ⟨acc, _, p⟩ => hl D i acc H hi p)
    (fun i x H hx ⟨acc, ha, p⟩ => hs D i x acc H _ hx ha p fun acc' H' h1 h2 => ⟨acc', h1, h2⟩) (fun H ⟨acc, ha, p⟩ => hd D acc H ha p)
theorem Cmp.range {lo : Int} {n : Nat} {g : TG} {tt : TT} {te : TE} {vs : List Nat} {σ : L2.St} {H1 : Hp} {Q : VK} (Pv : Addr → Nat → List V → Hp → Prop)
    (h0 : ∀ D H2, H1 D = none → Same H1 H2 → H2 D = some (.lst []) → Pv D 0 [] H2)
    (hs : ∀ D i acc H (Nx : Hp → Prop), i < n → acc.length ≤ i → Pv D i acc H → (∀ acc' H', acc'.length ≤ i + 1 → Pv D (i + 1) acc' H' → Nx H') → g (.int (lo + i)) (wipe σ vs) H fun σ2 H2 => wipe σ2 vs = wipe σ vs ∧ tt σ2 H2 fun b H3 =>
      if b = true then te σ2 H3 fun y H4 => ∃ acc, H4 D = some (.lst acc) ∧ acc.length < sizeLine ∧ Nx (upd H4 D (.lst (acc ++ [y]))) else Nx H3) (hd : ∀ D acc H, acc.length ≤ n → Pv D n acc H → Q (.ref D) H) : Cmp (Itr lo n) g tt te vs σ H1 Q := fun D nD =>
  lc_range (lo := lo) (n := n) (fun i H => ∃ acc, acc.length ≤ i ∧ Pv D i acc H) ⟨[], Nat.zero_le _, h0 D _ nD (same_new nD) upd_same⟩
    (fun i H hx ⟨acc, ha, p⟩ => hs D i acc H _ hx ha p fun acc' H' h1 h2 => ⟨acc', h1, h2⟩) (fun H ⟨acc, ha, p⟩ => hd D acc H ha p)
theorem push {D : Addr} {i : Nat} {acc : List V} {y : V} {H4 : Hp} {Nx : Hp → Prop} {PV : List V → Hp → Prop} (hN : ∀ acc' H', acc'.length ≤ i + 1 → PV acc' H' → Nx H') (ha : acc.length ≤ i) (h : H4 D = some (.lst acc)) (hi : i < 1000000)
    (hp : ∀ H5, Off D H4 H5 → H5 D = some (.lst (acc ++ [y])) → PV (acc ++ [y]) H5) : ∃ acc, H4 D = some (.lst acc) ∧ acc.length < sizeLine ∧ Nx (upd H4 D (.lst (acc ++ [y]))) :=
  ⟨acc, h, Nat.lt_of_lt_of_le (Nat.lt_of_le_of_lt ha hi) (by decide), hN _ _ (by rw [List.length_append]; exact Nat.succ_le_succ ha) (hp _ Off.upd upd_same)⟩
/-- elements that change nothing, over a list; with a test -/
theorem Cmp.pureF {K : PySem.W.Frag} {a : Addr} {xs : List V} {j : Nat} {tt : TT} {te : TE} {vs : List Nat} {σ : L2.St} {H1 : Hp} {Q : VK} (p : V → Bool) (f : V → V) (hS : SqL K H1 a xs) (hz : xs.length ≤ 100000) (hw : ∀ x, wipe ((wipe σ vs).set j (some x)) vs = wipe σ vs)
    (ht : ∀ x H2 (R : Bool → Hp → Prop), x ∈ xs → Same H1 H2 → (∀ H3, Same H2 H3 → R (p x) H3) → tt ((wipe σ vs).set j (some x)) H2 R)
    (he : ∀ x H2 (R : VK), x ∈ xs → p x = true → Same H1 H2 → (∀ H3, Same H2 H3 → R (f x) H3) → te ((wipe σ vs).set j (some x)) H2 R)
    (hd : ∀ l H2, H1 l = none → Same H1 H2 → H2 l = some (.lst ((xs.filter p).map f)) → Q (.ref l) H2) : Cmp (Itl K a) (gName j) tt te vs σ H1 Q := by
  refine Cmp.list (xs := xs) (fun D i acc H => H1 D = none ∧ Same H1 H ∧ H D = some (.lst acc) ∧ acc = ((xs.take i).filter p).map f) (fun D H2 nD s2 h2 => ⟨nD, s2, h2, by simp⟩) (fun D i acc H _ ⟨_, s2, _⟩ => s2.seq hS) ?_ ?_
  · rintro D i x acc H Nx hx ha ⟨nD, s2, h2, ea⟩ hN
    have hi : i < xs.length := (List.getElem?_eq_some_iff.mp hx).1
    have hm := List.mem_of_getElem? hx
    refine ⟨hw x, ht x H _ hm s2 fun H3 s3 => ?_⟩
    cases hp : p x with
    | true =>
      rw [if_pos rfl]
      refine he x H3 _ hm hp (s2.trans s3) fun H4 s4 => push hN ha (s4 _ _ (s3 _ _ h2)) (by omega) fun H5 o5 h5 => ⟨nD, Same.off ((s2.trans s3).trans s4) nD o5, h5, ?_⟩
      rw [ea, take_snoc hx, List.filter_append, List.map_append]
      simp [hp]
    | false =>
      rw [if_neg Bool.false_ne_true]
      refine hN acc H3 (Nat.le_succ_of_le ha) ⟨nD, s2.trans s3, s3 _ _ h2, ?_⟩
      rw [ea, take_snoc hx, List.filter_append, List.map_append]
      simp [hp]
  · rintro D acc H _ ⟨nD, s2, h2, ea⟩
    rw [List.take_length] at ea
    exact hd D H nD s2 (ea ▸ h2)
theorem Cmp.pureL {K : PySem.W.Frag} {a : Addr} {xs : List V} {j : Nat} {te : TE} {vs : List Nat} {σ : L2.St} {H1 : Hp} {Q : VK} (f : V → V) (hS : SqL K H1 a xs) (hz : xs.length ≤ 100000) (hw : ∀ x, wipe ((wipe σ vs).set j (some x)) vs = wipe σ vs)
    (he : ∀ x H2 (R : VK), x ∈ xs → Same H1 H2 → (∀ H3, Same H2 H3 → R (f x) H3) → te ((wipe σ vs).set j (some x)) H2 R)
    (hd : ∀ l H2, H1 l = none → Same H1 H2 → H2 l = some (.lst (xs.map f)) → Q (.ref l) H2) : Cmp (Itl K a) (gName j) tYes te vs σ H1 Q :=
  Cmp.pureF (fun _ => true) f hS hz hw (fun x H2 R _ _ h => h H2 (Same.refl H2)) (fun x H2 R hm _ => he x H2 R hm) fun l H2 n s h => hd l H2 n s (by rw [List.filter_eq_self.mpr (fun _ _ => rfl)] at h; exact h)
theorem Cmp.pureRF {lo : Int} {n : Nat} {j : Nat} {tt : TT} {te : TE} {vs : List Nat} {σ : L2.St} {H1 : Hp} {Q : VK} (p : Nat → Bool) (f : Nat → V) (hz : n ≤ 100000) (hw : ∀ x, wipe ((wipe σ vs).set j (some x)) vs = wipe σ vs)
    (ht : ∀ i H2 (R : Bool → Hp → Prop), i < n → Same H1 H2 → (∀ H3, Same H2 H3 → R (p i) H3) → tt ((wipe σ vs).set j (some (.int (lo + (i : Int))))) H2 R)
    (he : ∀ i H2 (R : VK), i < n → p i = true → Same H1 H2 → (∀ H3, Same H2 H3 → R (f i) H3) → te ((wipe σ vs).set j (some (.int (lo + (i : Int))))) H2 R)
    (hd : ∀ l H2, H1 l = none → Same H1 H2 → H2 l = some (.lst (((List.range n).filter p).map f)) → Q (.ref l) H2) : Cmp (Itr lo n) (gName j) tt te vs σ H1 Q := by
  refine Cmp.range (fun D i acc H => H1 D = none ∧ Same H1 H ∧ H D = some (.lst acc) ∧ acc = ((List.range i).filter p).map f) (fun D H2 nD s2 h2 => ⟨nD, s2, h2, by simp⟩) ?_ ?_
  · rintro D i acc H Nx hi ha ⟨nD, s2, h2, ea⟩ hN
    refine ⟨hw _, ht i H _ hi s2 fun H3 s3 => ?_⟩
    cases hp : p i with
    | true =>
      rw [if_pos rfl]
      refine he i H3 _ hi hp (s2.trans s3) fun H4 s4 => push hN ha (s4 _ _ (s3 _ _ h2)) (by omega) fun H5 o5 h5 => ⟨nD, Same.off ((s2.trans s3).trans s4) nD o5, h5, ?_⟩
      rw [ea, List.range_succ, List.filter_append, List.map_append]
      simp [hp]
    | false =>
      rw [if_neg Bool.false_ne_true]
      refine hN acc H3 (Nat.le_succ_of_le ha) ⟨nD, s2.trans s3, s3 _ _ h2, ?_⟩
      rw [ea, List.range_succ, List.filter_append, List.map_append]
      simp [hp]
  · rintro D acc H _ ⟨nD, s2, h2, ea⟩
    exact hd D H nD s2 (ea ▸ h2)
theorem Cmp.pureR {lo : Int} {n : Nat} {j : Nat} {te : TE} {vs : List Nat} {σ : L2.St} {H1 : Hp} {Q : VK} (f : Nat → V) (hz : n ≤ 100000) (hw : ∀ x, wipe ((wipe σ vs).set j (some x)) vs = wipe σ vs)
    (he : ∀ i H2 (R : VK), i < n → Same H1 H2 → (∀ H3, Same H2 H3 → R (f i) H3) → te ((wipe σ vs).set j (some (.int (lo + (i : Int))))) H2 R)
    (hd : ∀ l H2, H1 l = none → Same H1 H2 → H2 l = some (.lst ((List.range n).map f)) → Q (.ref l) H2) : Cmp (Itr lo n) (gName j) tYes te vs σ H1 Q :=
  Cmp.pureRF (fun _ => true) f hz hw (fun x H2 R _ _ h => h H2 (Same.refl H2)) (fun x H2 R hm _ => he x H2 R hm) fun l H2 n s h => hd l H2 n s (by rw [List.filter_eq_self.mpr (fun _ _ => rfl)] at h; exact h)

theorem sq_true {K : PySem.W.Frag} {H : Hp} {l : Addr} {α : Type} {ys : List α} (h : H l = some (.lst (ys.map fun _ => V.bl true))) : SqL K H l ((ys.map fun _ => true).map V.bl) := by
  rw [List.map_map]
  exact seq_of h
theorem all_true {α : Type} : ∀ ys : List α, (ys.map fun _ => true).all id = true
  | [] => rfl
  | _ :: r => all_true r
theorem cut_to (xs : List V) (j : Nat) : cutV xs none (some (j : Int)) = xs.take j := by
  unfold cutV
  rw [HT.sIx_none, HT.sIx_nat, List.drop_zero, Nat.sub_zero]
  by_cases h : j ≤ xs.length
  · rw [Nat.min_eq_left h]
  · rw [Nat.min_eq_right (by omega), List.take_of_length_le (Nat.le_refl _), List.take_of_length_le (by omega)]
theorem cut_from (xs : List V) (j : Nat) : cutV xs (some (j : Int)) none = xs.drop j := by
  unfold cutV
  rw [HT.sIx_none, HT.sIx_nat]
  by_cases h : j ≤ xs.length
  · rw [Nat.min_eq_left h, List.take_of_length_le (by rw [List.length_drop]; omega)]
  · rw [Nat.min_eq_right (by omega), List.drop_eq_nil_of_le (Nat.le_refl _), List.drop_eq_nil_of_le (by omega), List.take_nil]

/-! ### data -/
def pd : V → PyData
  | .bl b => .bool b
  | .int i => .int i
  | .str x => .str x
  | _ => .none
def isPd : V → Bool
  | .bl _ => true
  | .int _ => true
  | .str x => PyData.strOk x
  | .non => true
  | _ => false
theorem dp_pd {K : PySem.W.Frag} {H : Hp} : ∀ {x : V}, isPd x = true → Dp K H x (pd x)
  | .non, _ => .non
  | .bl b, _ => .bl b
  | .int i, _ => .int i
  | .str x, _ => .str x
theorem dpAll_pd {K : PySem.W.Frag} {H : Hp} : ∀ {xs : List V}, xs.all isPd = true → DpAll K H xs (xs.map pd)
  | [], _ => .nil
  | x :: xs, h => by
    rw [List.all_cons, Bool.and_eq_true] at h
    exact .cons (dp_pd h.1) (dpAll_pd h.2)
theorem ints_pd : ∀ ns : List Int, (ns.map V.int).all isPd = true
  | [] => rfl
  | _ :: r => ints_pd r
theorem dp_lst {K : PySem.W.Frag} {H : Hp} {a : Addr} {xs : List V} (h : SqL K H a xs) (hx : xs.all isPd = true) : Dp K H (.ref a) (.list (xs.map pd)) := .lst h (dpAll_pd hx)
theorem dp_tup {K : PySem.W.Frag} {H : Hp} {a : Addr} {xs : List V} (h : SqT K H a xs) (hx : xs.all isPd = true) : Dp K H (.ref a) (.tuple (xs.map pd)) := .tup h (dpAll_pd hx)
theorem pd_lay : ∀ {x : V}, isPd x = true → (pd x).canLay0 = true
  | .non, _ => rfl
  | .bl _, _ => rfl
  | .int _, _ => rfl
  | .str x, h => h
theorem pd_layAll : ∀ {xs : List V}, xs.all isPd = true → PyData.canLayAll0 (xs.map pd) = true
  | [], _ => rfl
  | x :: xs, h => by
    rw [List.all_cons, Bool.and_eq_true] at h
    show ((pd x).canLay0 && PyData.canLayAll0 (xs.map pd)) = true
    rw [pd_lay h.1, pd_layAll h.2]
    rfl
theorem pd_depth : ∀ x : V, (pd x).depth = 0
  | .non => rfl
  | .bl _ => rfl
  | .int _ => rfl
  | .str _ => rfl
  | .byt _ => rfl
  | .flt _ => rfl
  | .ref _ => rfl
  | .ty _ => rfl

theorem pd_depthAll : ∀ xs : List V, PyData.depthAll (xs.map pd) = 0
  | [] => rfl
  | x :: xs => by
    show max (pd x).depth (PyData.depthAll (xs.map pd)) = 0
    rw [pd_depth, pd_depthAll]
    rfl
theorem shaped_lst {xs : List V} (h : xs.all isPd = true) : SeqAt.shaped (.list (xs.map pd)) = true := by
  have e : (PyData.list (xs.map pd)).depth = 1 := by
    show PyData.depthAll (xs.map pd) + 1 = 1
    rw [pd_depthAll]
  show ((PyData.canLayAll0 (xs.map pd)) && decide ((PyData.list (xs.map pd)).depth ≤ 64)) = true
  rw [pd_layAll h, e]
  rfl
theorem shaped_tup {xs : List V} (h : xs.all isPd = true) : SeqAt.shaped (.tuple (xs.map pd)) = true := by
  have e : (PyData.tuple (xs.map pd)).depth = 1 := by
    show PyData.depthAll (xs.map pd) + 1 = 1
    rw [pd_depthAll]
  show ((PyData.canLayAll0 (xs.map pd)) && decide ((PyData.tuple (xs.map pd)).depth ≤ 64)) = true
  rw [pd_layAll h, e]
  rfl
theorem eqvAll_ints : ∀ ns ms : List Int, PyData.eqvAll ((ns.map V.int).map pd) ((ms.map V.int).map pd) = decide (ns = ms)
  | [], [] => rfl
  | [], _ :: _ => rfl
  | _ :: _, [] => rfl
  | a :: r, b :: t => by
    show ((a == b) && PyData.eqvAll ((r.map V.int).map pd) ((t.map V.int).map pd)) = decide (a :: r = b :: t)
    rw [eqvAll_ints r t]
    by_cases h : a = b
    · subst h
      simp
    · simp [h]
theorem eqv_ints (ns ms : List Int) : PyData.eqv (.list ((ns.map V.int).map pd)) (.list ((ms.map V.int).map pd)) = decide (ns = ms) := eqvAll_ints ns ms
/-- == of two lists of ints -/
theorem eq_ints {K : PySem.W.Frag} {H : Hp} {a b : Addr} {ns ms : List Int} {Q : VK} (ha : SqL K H a (ns.map V.int)) (hb : SqL K H b (ms.map V.int)) (q : Q (.bl (decide (ns = ms))) H) : rEqD K (.ref a) (.ref b) H Q :=
  ⟨_, _, dp_lst ha (ints_pd ns), dp_lst hb (ints_pd ms), shaped_lst (ints_pd ns), shaped_lst (ints_pd ms), by rw [eqv_ints]; exact q⟩
theorem ne_ints {K : PySem.W.Frag} {H : Hp} {a b : Addr} {ns ms : List Int} {Q : VK} (ha : SqL K H a (ns.map V.int)) (hb : SqL K H b (ms.map V.int)) (q : Q (.bl (!decide (ns = ms))) H) : rNeD K (.ref a) (.ref b) H Q :=
  ⟨_, _, dp_lst ha (ints_pd ns), dp_lst hb (ints_pd ms), shaped_lst (ints_pd ns), shaped_lst (ints_pd ms), by rw [eqv_ints]; exact q⟩
/-- == of equal data -/
theorem eq_tups {K : PySem.W.Frag} {H : Hp} {a b : Addr} {xs : List V} {Q : VK} (ha : SqT K H a xs) (hb : SqT K H b xs) (hx : xs.all isPd = true) (q : Q (.bl true) H) : rEqD K (.ref a) (.ref b) H Q :=
  ⟨_, _, dp_tup ha hx, dp_tup hb hx, shaped_tup hx, shaped_tup hx, by rw [SeqAt.eqv_refl (.tuple (xs.map pd)) (show PyData.canLayAll0 (xs.map pd) = true from pd_layAll hx)]; exact q⟩

/-- the type of a list, of a tuple, of an int that is told -/
theorem tyv_list {K : PySem.W.Frag} {H : Hp} {a : Addr} {xs : List V} (h : SqL K H a xs) : tyV K "list" (.ref a) H := .inl ⟨rfl, _, h⟩
theorem ty_int {K : PySem.W.Frag} {H : Hp} {i : Int} : TyX K H (.int i) (.type "int") := .base (.int i)
theorem ty_lst {K : PySem.W.Frag} {H : Hp} {a : Addr} {xs : List V} (h : H a = some (.lst xs)) : TyX K H (.ref a) (.type "list") := .base (.lst h)
theorem ty_tup {K : PySem.W.Frag} {H : Hp} {a : Addr} {xs : List V} (h : H a = some (.tup xs)) : TyX K H (.ref a) (.type "tuple") := .base (.tup h)

theorem scal_ii {i j : Int} : scal (.int i) (.int j) = true := rfl
theorem scal_bb {i j : Bool} : scal (.bl i) (.bl j) = true := rfl
theorem scal_ss {i j : Str} : scal (.str i) (.str j) = true := rfl
theorem scal_nn : scal .non .non = true := rfl
theorem scal_ni {j : Int} : scal .non (.int j) = true := rfl
theorem scal_in {j : Int} : scal (.int j) .non = true := rfl
theorem scal_ns {j : Str} : scal .non (.str j) = true := rfl
theorem scal_sn {j : Str} : scal (.str j) .non = true := rfl
theorem scal_is {i : Int} {j : Str} : scal (.int i) (.str j) = true := rfl
theorem scal_si {i : Int} {j : Str} : scal (.str j) (.int i) = true := rfl

/-! == of lists of tuples -/
def pdT (d : List V) : PyData := .tuple (d.map pd)
theorem dp_tups {K : PySem.W.Frag} {H : Hp} : ∀ {xs : List V} {ds : List (List V)}, Tups K H xs ds → (∀ d ∈ ds, d.all isPd = true) → DpAll K H xs (ds.map pdT)
  | _, _, .nil, _ => .nil
  | _, _, .cons (b := d) ⟨a, e, h⟩ t, hd => by
    subst e
    exact .cons (dp_tup h (hd d List.mem_cons_self)) (dp_tups t fun d h => hd d (List.mem_cons_of_mem _ h))
theorem lay_tups : ∀ {ds : List (List V)}, (∀ d ∈ ds, d.all isPd = true) → PyData.canLayAll0 (ds.map pdT) = true
  | [], _ => rfl
  | d :: r, h => by
    show (PyData.canLayAll0 (d.map pd) && PyData.canLayAll0 (r.map pdT)) = true
    rw [pd_layAll (h d List.mem_cons_self), lay_tups fun d hd => h d (List.mem_cons_of_mem _ hd)]
    rfl
theorem depth_tups : ∀ ds : List (List V), PyData.depthAll (ds.map pdT) ≤ 1
  | [] => by show 0 ≤ 1; decide
  | d :: r => by
    show max (PyData.depthAll (d.map pd) + 1) (PyData.depthAll (r.map pdT)) ≤ 1
    rw [pd_depthAll]
    have := depth_tups r
    omega
theorem shaped_tups {ds : List (List V)} (h : ∀ d ∈ ds, d.all isPd = true) : SeqAt.shaped (.list (ds.map pdT)) = true := by
  have e : (PyData.list (ds.map pdT)).depth ≤ 64 := by
    show PyData.depthAll (ds.map pdT) + 1 ≤ 64
    have := depth_tups ds
    omega
  show ((PyData.canLayAll0 (ds.map pdT)) && decide ((PyData.list (ds.map pdT)).depth ≤ 64)) = true
  rw [lay_tups h, decide_eq_true e]
  rfl
theorem eqv_tups {ds : List (List V)} (h : ∀ d ∈ ds, d.all isPd = true) : PyData.eqv (.list (ds.map pdT)) (.list (ds.map pdT)) = true := SeqAt.eqv_refl (.list (ds.map pdT)) (show PyData.canLayAll0 (ds.map pdT) = true from lay_tups h)
theorem eq_tupsL {K : PySem.W.Frag} {H : Hp} {a b : Addr} {xs ys : List V} {ds : List (List V)} {Q : VK} (ha : SqL K H a xs) (hb : SqL K H b ys) (t : Tups K H xs ds) (u : Tups K H ys ds) (hd : ∀ d ∈ ds, d.all isPd = true) (q : Q (.bl true) H) : rEqD K (.ref a) (.ref b) H Q :=
  ⟨_, _, .lst ha (dp_tups t hd), .lst hb (dp_tups u hd), shaped_tups hd, shaped_tups hd, by rw [eqv_tups hd]; exact q⟩
theorem ne_tupsL {K : PySem.W.Frag} {H : Hp} {a b : Addr} {xs ys : List V} {ds : List (List V)} {Q : VK} (ha : SqL K H a xs) (hb : SqL K H b ys) (t : Tups K H xs ds) (u : Tups K H ys ds) (hd : ∀ d ∈ ds, d.all isPd = true) (q : Q (.bl false) H) : rNeD K (.ref a) (.ref b) H Q :=
  ⟨_, _, .lst ha (dp_tups t hd), .lst hb (dp_tups u hd), shaped_tups hd, shaped_tups hd, by rw [eqv_tups hd]; exact q⟩

/-! ### list + list, whoever holds them -/
def rCatR (K : PySem.W.Frag) : R2 := fun x y H Q => ∃ l b xs zs, x = .ref l ∧ y = .ref b ∧ SqL K H l xs ∧ SqL K H b zs ∧ xs.length + zs.length ≤ sizeLine ∧ New H (.lst (xs ++ zs)) fun p H2 => Q (.ref p) H2
theorem op_catS {X : Cx} {K : PySem.W.Frag} (h : X.K = K := by rfl) : OpR X (binaryOp .Add) (rCatR K) := by
  subst h
  intro pins s σ H x y v u Q I rx ry h
  obtain ⟨l, b, xs, zs, rfl, rfl, hH, hB, hz, q⟩ := h
  cases rx
  cases ry
  obtain ⟨its, r, ⟨⟨cls, dd, dt, sl⟩, n, e, hc, hd0, hd⟩, hz1⟩ := I.list hH
  obtain ⟨its2, r2, ⟨⟨cls2, dd2, dt2, sl2⟩, n2, e2, hc2, hd02, hd2⟩, hz2⟩ := I.list hB
  simp only at hc hd hc2 hd2
  subst hc hd hc2 hd2
  have hl := r.length
  have hl2 := r2.length
  have ea : its.toArray ++ its2.toArray = (its ++ its2).toArray := by simp
  refine concat_meets ⟨_, e, rfl⟩ ⟨_, e2, rfl⟩ noFill_list_add seq_list_add PySem.F.slot_list_add PySem.F.entry_list_add (PySem.F.args_list_add_2 _ _) (list_addW l b its.toArray its2.toArray n n2 dd dd2 sl sl2 (by rw [List.size_toArray, List.size_toArray]; omega)) ⟨e, e2, ?_⟩
  rw [ea]
  exact ⟨.ref _, _, I.lnew (t' := s.toks) (r.append r2) (by rw [List.length_append]; omega), rfl, q _ I.fresh⟩

/-! ### int(x), [x] * n, == of equal lists -/
def rInt1 : List V → Hp → VK → Prop := fun xs H Q => (∃ i, xs = [.int i] ∧ Q (.int i) H) ∨ ∃ k, xs = [.bl k] ∧ Q (.int (if k then 1 else 0)) H
theorem call_int1R {X : Cx} : CallR X (.type "int") rInt1 := call_int1
theorem rRep_n : rRep = fun x y H Q => ∃ l k xs, x = .ref l ∧ y = .int k ∧ H l = some (.lst xs) ∧ -(2 ^ 63) ≤ k ∧ k < 2 ^ 63 ∧ xs.length * k.toNat ≤ sizeLine ∧ New H (.lst (List.replicate k.toNat xs).flatten) fun p H2 => Q (.ref p) H2 := rfl
theorem eq_lst {K : PySem.W.Frag} {H : Hp} {a b : Addr} {xs : List V} {Q : VK} (ha : SqL K H a xs) (hb : SqL K H b xs) (hx : xs.all isPd = true) (q : Q (.bl true) H) : rEqD K (.ref a) (.ref b) H Q :=
  ⟨_, _, dp_lst ha hx, dp_lst hb hx, shaped_lst hx, shaped_lst hx, by rw [SeqAt.eqv_refl (.list (xs.map pd)) (show PyData.canLayAll0 (xs.map pd) = true from pd_layAll hx)]; exact q⟩
theorem ne_lst {K : PySem.W.Frag} {H : Hp} {a b : Addr} {xs : List V} {Q : VK} (ha : SqL K H a xs) (hb : SqL K H b xs) (hx : xs.all isPd = true) (q : Q (.bl false) H) : rNeD K (.ref a) (.ref b) H Q :=
  ⟨_, _, dp_lst ha hx, dp_lst hb hx, shaped_lst hx, shaped_lst hx, by rw [SeqAt.eqv_refl (.list (xs.map pd)) (show PyData.canLayAll0 (xs.map pd) = true from pd_layAll hx)]; exact q⟩
theorem cut_init (xs : List V) (x : V) : cutV (xs ++ [x]) none (some (-1)) = xs := by
  unfold cutV HT.sIx
  simp only [List.length_append, List.length_singleton, List.drop_zero, Nat.sub_zero]
  rw [if_pos (by decide), show (-1 + ((xs.length + 1 : Nat) : Int)).toNat = xs.length by omega, List.take_append_of_le_length (Nat.le_refl _), List.take_length]
theorem cut_mid (xs : List V) (i j : Nat) : cutV xs (some (i : Int)) (some (j : Int)) = (xs.drop i).take (j - i) := by
  unfold cutV
  rw [HT.sIx_nat, HT.sIx_nat]
  by_cases h : i ≤ xs.length
  · rw [Nat.min_eq_left h]
    by_cases h2 : j ≤ xs.length
    · rw [Nat.min_eq_left h2]
    · rw [Nat.min_eq_right (by omega), List.take_of_length_le (by rw [List.length_drop]; omega), List.take_of_length_le (by rw [List.length_drop]; omega)]
  · have e : min i xs.length = xs.length := Nat.min_eq_right (by omega)
    rw [e, List.drop_eq_nil_of_le (Nat.le_refl _), List.drop_eq_nil_of_le (show xs.length ≤ i by omega), List.take_nil, List.take_nil]
/-! ### len(set(xs)) of ints -/
def tLenSetS (K : PySem.W.Frag) (ta : TE) : TE := fun σ H Q => ta σ H fun x H1 => ∃ (l : Addr) (ns : List Int), x = .ref l ∧ SqL K H1 l (ns.map V.int) ∧ ns.length ≤ 4000 ∧ ∀ ds : List Int, ds.Nodup → (∀ k, k ∈ ds ↔ k ∈ ns) → Q (.int (ds.length : Nat)) H1
theorem firstMet_nd (val : Nat → Int) : ∀ i, (PyProof.Rows.firstMet val i).Nodup
  | 0 => List.nodup_nil
  | i + 1 => by
    rw [PyProof.Rows.firstMet_succ]
    unfold PyProof.Rows.step_dedup
    split
    · exact firstMet_nd val i
    · rename_i h
      rw [List.nodup_append]
      refine ⟨firstMet_nd val i, List.nodup_cons.mpr ⟨List.not_mem_nil, List.nodup_nil⟩, fun a ha b hb e => h (List.any_eq_true.mpr ⟨a, ha, ?_⟩)⟩
      rw [List.mem_singleton] at hb
      rw [e, hb]
      exact beq_self_eq_true _
theorem firstMet_mem (ns : List Int) (k : Int) : k ∈ PyProof.Rows.firstMet (fun i => ns.getD i 0) ns.length ↔ k ∈ ns := by
  have h := PyProof.Rows.firstMet_any (fun i => ns.getD i 0) ns.length k
  have e : (List.range ns.length).map (fun i => ns.getD i 0) = ns := by
    apply List.ext_getElem
    · rw [List.length_map, List.length_range]
    · intro i h1 h2
      rw [List.getElem_map, List.getElem_range, List.getD_eq_getElem?_getD, List.getElem?_eq_getElem h2]
      rfl
  rw [e] at h
  have mem : ∀ l : List Int, l.any (· == k) = true ↔ k ∈ l := fun l => by
    rw [List.any_eq_true]
    constructor
    · rintro ⟨x, hx, e⟩
      rw [← eq_of_beq e]
      exact hx
    · intro hk
      exact ⟨k, hk, beq_self_eq_true k⟩
  rw [← mem, ← mem, h]
theorem pe_lenSetS {X : Cx} {K : PySem.W.Frag} {a : Expr} {ta : TE} {p p2 q pos : Pos} (hg : Gl X "len") (hm : X.mg "len" = none) (hg2 : Gl X "set") (hm2 : X.mg "set" = none) (ha : PE X a ta) (hc : X.calm = true := by rfl)
    (na : starEach [a] X.env = (false, eval a X.env) :: starEach [] X.env := by rfl) (hK : X.K = K := by rfl) : PE X (.Call (.Name "len" p) [.Call (.Name "set" p2) [a] [] q] [] pos) (tLenSetS K ta) := by
  subst hK
  refine ⟨fun pins s σ H Q I h => ?_⟩
  refine Call_ (ld_blt I hg hm boot_len ?_)
  refine PyProof.Rows.callWith_builtin1 (PyProof.Rows.args_cons ?_ rfl) rfl rfl
  refine Call_ (ld_blt I hg2 hm2 boot_set ?_)
  refine PyProof.Rows.callWith_type1 (PyProof.Rows.args_cons (thn (ha.run pins s σ H _ I h) fun v s1 ⟨x, H1, I1, r1, q1⟩ => PyProof.Rows.args_nil ?_) na) na rfl
  obtain ⟨l, ns, rfl, hq, hl, q1⟩ := q1
  cases r1
  obtain ⟨its, r, pl, hz⟩ := I1.list hq
  have hlen : its.toArray.size = ns.length := by rw [List.size_toArray, ← r.length, List.length_map]
  refine call_set_list (I1.ok.hd hc) pl.isList (by simpa using RZ.intsAre_vals r) (by rw [hlen]; unfold scanBound; omega) fun h' tk hS hk => ?_
  refine PyProof.Rows.args_nil ?_
  rw [hlen] at hS
  have hlt := PyProof.Rows.firstMet_length_le (fun i => ns.getD i 0) ns.length
  have q2 := q1 (PyProof.Rows.firstMet (fun i => ns.getD i 0) ns.length) (firstMet_nd _ _) (firstMet_mem ns)
  generalize PyProof.Rows.firstMet (fun i => ns.getD i 0) ns.length = D at hS hlt q2
  obtain ⟨o, es, ep, t, ho, hex, hd, _, _, _, hf, hn⟩ := hS
  have I2 : Inv X pins σ H1 { s1 with heap := h', toks := tk } := I1.kept fun b o e => hk b o (Heap.lt_size e) e
  exact call_len_set ho hex hd hf (by rw [hn] <;> omega) ⟨.int D.length, H1, I2.tok _, ⟨_, by rw [hn]⟩, q2⟩
theorem eqV_int (a n : Int) : eqV (.int a) (.int n) = decide (a = n) := by
  unfold eqV
  rfl
theorem idx_at {D : List Int} {z : Int} (h : z ∈ D) : D[D.idxOf z]? = some z := by
  have hx := List.idxOf_lt_length_of_mem h
  rw [List.getElem?_eq_getElem hx, List.getElem_idxOf]
theorem idx_ne {D : List Int} {z : Int} (m : Nat) (hm : m < D.idxOf z) : D[m]? ≠ some z := fun e => by
  obtain ⟨h1, h2⟩ := List.getElem?_eq_some_iff.mp e
  have := List.not_of_lt_findIdx (p := (· == z)) (xs := D) (i := m) hm
  simp [h2] at this
/-! ### things that stay -/
inductive Th (K : PySem.W.Frag) (H : Hp) : V → String → Prop
  | int (i : Int) : Th K H (.int i) "int"
  | bl (b : Bool) : Th K H (.bl b) "bool"
  | non : Th K H .non "NoneType"
  | str (z : Str) : Th K H (.str z) "str"
  | lst {a : Addr} {xs : List V} (h : SqL K H a xs) : Th K H (.ref a) "list"
  | tup {a : Addr} {xs : List V} (h : SqT K H a xs) : Th K H (.ref a) "tuple"
  | dK {a : Addr} {xs : List (Key × V)} (h : H a = some (.dK xs)) : Th K H (.ref a) "dict"
theorem Th.thg {K : PySem.W.Frag} {H : Hp} {x : V} {T : String} (t : Th K H x T) : Thg K H x T := by
  cases t with
  | int i => exact thg_int
  | bl b => exact thg_bl
  | non => exact thg_non
  | str z => exact thg_str
  | lst h => exact thg_seq h
  | tup h => exact thg_tup h
  | dK h => exact thg_dK h
theorem Th.same {K : PySem.W.Frag} {H H' : Hp} {x : V} {T : String} (t : Th K H x T) (s : Same H H') : Th K H' x T := by
  cases t with
  | int i => exact .int i
  | bl b => exact .bl b
  | non => exact .non
  | str z => exact .str z
  | lst h => exact .lst (s.seq h)
  | tup h => exact .tup (Same.seqT s h)
  | dK h => exact .dK (s _ _ h)
theorem cut_last (xs : List V) : cutV xs (some (-1)) none = xs.drop (xs.length - 1) := by
  unfold cutV HT.sIx
  dsimp only
  rw [if_pos (by decide), show (-1 + (xs.length : Int)).toNat = xs.length - 1 by omega, List.take_of_length_le (by rw [List.length_drop]; omega)]
theorem tDNewK_n : tDNewK = fun _ H Q => New H (.dK []) fun p H2 => Q (.ref p) H2 := rfl
def rStrI : List V → Hp → VK → Prop := fun xs H Q => ∃ i : Int, xs = [.int i] ∧ i.natAbs.log2 < 1920 ∧ Q (.str (toString i)) H
theorem call_strI {X : Cx} : CallR X (.type "str") rStrI := call_str_int
end Rb

set_option Elab.async false
set_option linter.all false
set_option maxRecDepth 100000
set_option maxHeartbeats 4000000
/-! own exceptions: made, raised, caught -/
namespace Rx
open PySem PySem.Spec PyProof.Rows L2 Rb
/-! ### RoomError.__init__(self, ..), RoomError a class without __init__ -/
section
variable {X : Cx} {o e : Expr} {es : List Expr} {to te : TE} {ta : TA} {f x : Str} {p p' p1 p2 pos : Pos}
theorem pe_roinit {K : PySem.W.Frag} {pl : Sem Bool} {CR : Addr} {mc : Value} (hg : Gl X x) (hm : X.mg x = some (.ref CR)) (r : ClX.CRead X.K CR mc) (vV : PySem.W.findCls X.K (.ref CR) mc "__init__" = some (.val (.builtin "ValueError.__init__"))) (ha : PA X (e :: es) ta)
    (hdb : (x == ("__debug__" : Str)) = false := by decide)
    (hc : eval (.Call (.Attribute (.Name x p1) "__init__" p2) (e :: es) [] pos) X.env = (do
      let ov ← eval (.Name x p1) X.env
      standAt p2.atName
      let (f, first) ← holding [ov] (getMethod ov "__init__" pl)
      callWith pos f first (backTo pos (starEach (e :: es) X.env)) (backToKw pos (keywordEach [] X.env))) := by rfl)
    (he : starEach (e :: es) X.env = (false, eval e X.env) :: starEach es X.env := by rfl) (hpl : (backTo pos (starEach es X.env)).any (·.1) = false := by rfl) (hK : X.K = K := by rfl) :
    PE X (.Call (.Attribute (.Name x p1) "__init__" p2) (e :: es) [] pos) (tVeI K ta) := by
  subst hK
  refine ⟨fun pins s σ H Q I h => ?_⟩
  refine PySem.W.methodCall_KW (ld_glob I hg hm ?_ hdb) hc
  refine PySem.W.method_cls I.kIn r.ga (PySem.W.cls_value I.kIn r.rd vV (by decide +kernel) ?_)
  show wpAny _ _ (callWith pos (Value.builtin "ValueError.__init__") [] (backTo pos (starEach (e :: es) X.env)) []) _ _ _
  refine PyProof.Rows.callWith_method1 (thn (ha.run pos pins _ σ H _ (I.tok _) h) fun us s1 ⟨vs, H1, I1, r1, a, C, ws, ev, hl, T, ea, q⟩ => ?_) he hpl
  subst ev
  cases r1 with
  | @cons _ u0 _ ur ra rw' =>
    obtain rfl : u0 = Value.ref a := ra
    have hlen : ur.length ≤ sizeLine := by
      rw [← Paired.length rw', sizeLine_eq]
      omega
    exact oinit_ok T I1 ea hlen fun s' J => ⟨.non, H1, J, rfl, q⟩
theorem ps_ostK {K : PySem.W.Frag} (ho : PE X o to) (he : PE X e te) (hs : swapsWith e (some (.Attribute o f p')) pos.line X.env = pure false := by rfl) (hK : X.K = K := by rfl) : PS X (.Assign [.Attribute o f p'] e pos) (tOst K f to te) := by
  subst hK
  exact ps_ost ho he hs
end
/-! ### an exception's class, with its __init__ -/
/-- what the text says of the exception class at C -/
structure XcK (K : PySem.W.Frag) (C : Addr) : Prop where
  oc : OexC K C
  xf : XfC K C
structure Xn (P : Program) (w : World) (K : PySem.W.Frag) (mg : Str → Option Value) (base : Heap) (k : Nat) (C : Addr) (x : Str) (ps : List Str) (sp : Sp) : Prop where
  cls : XcK K C
  ex : ∃ f fd, PySem.W.findIn K (.ref C) "__init__" = some (some (.ref f)) ∧ PySem.W.typeIn K (.ref f) = some (.type "function") ∧ FnOk P w K mg base CX0 k f fd ps sp ∧ mg x = some (.ref C) ∧ Binds K fd ps []
/-- the exception's fields -/
def XObj (H : Hp) (d : Addr) (fs : List (Str × V)) : Prop := H d = some (.xd fs)
def spX (C : Addr) (ns : List Str) : Sp := fun vs H Q _ => ∃ (a : Addr) (ys : List V), vs = .ref a :: ys ∧ ys.length = ns.length ∧ H a = some (exo a C none) ∧ ∀ dx H1, H dx = none → dx ≠ a → H1 a = some (exo a C (some dx)) → H1 dx = some (exd dx ((ns.zip ys).reverse)) → (∀ b, b ≠ a → b ≠ dx → H1 b = H b) → Q .non H1
/-- raise C(e, ..): the fields by name -/
def tRz (C : Addr) (ns : List Str) (ta : TA) (W : Value → Option Addr → L2.St → Hp → Prop) : TS := fun _ σ H => ta σ H fun ys H1 => ys.length = ns.length ∧ ∀ d H2, H1 d = none → Same H1 H2 → H2 d = some (.xd (ns.zip ys).reverse) → W (.ref C) (some d) σ H2
/-- a reading of arguments that may be weakened -/
def tWeak (ta : TA) : TA := fun σ H R => ∃ R0 : List V → Hp → Prop, ta σ H R0 ∧ ∀ ys H1, R0 ys H1 → R ys H1
theorem pa_weak {X : Cx} {es : List Expr} {ta : TA} (ha : PA X es ta) : PA X es (tWeak ta) := by
  refine ⟨fun pos pins s σ H Q I h => ?_⟩
  obtain ⟨R0, h0, hi⟩ := h
  exact thn (ha.run pos pins s σ H R0 I h0) fun us s1 ⟨vs, H1, I1, r1, q1⟩ => ⟨vs, H1, I1, r1, hi _ _ q1⟩
theorem ps_rz {X : Cx} {k : Nat} {C : Addr} {x : Str} {ps ns : List Str} {e : Expr} {es : List Expr} {ta : TA} {p pos pos' : Pos} {W : WX} (N : Xn X.prog X.w X.K X.mg X.base k C x ps (spX C ns)) (hc : X.calm = true) (tk : Takes X W) (hr : Room (k + 1) X.A) (hg : Gl X x) (hx : Passes CX0 X (fun _ _ _ => False)) (ha : PA X (e :: es) ta)
    (hns : ns.length ≤ 900 := by decide) (hdb : (x == ("__debug__" : Str)) = false := by decide) (he : starEach (e :: es) X.env = (false, eval e X.env) :: starEach es X.env := by rfl) (hpl : (backTo pos (starEach es X.env)).any (·.1) = false := by rfl) :
    PS X (.Raise (some (.Call (.Name x p) (e :: es) [] pos)) none pos') (tRz C ns ta W) := by
  obtain ⟨f, fd, iC, tI, F, hm, hb⟩ := N.ex
  have mk : PMk X (.Call (.Name x p) (e :: es) [] pos) (tMkO C (spX C ns) [] (tWeak ta)) := pmk_oex N.cls.oc iC tI F hr hb .nil hx hg hm (pa_weak ha) hdb he hpl
  have ps := ps_raise (W := W) (pos := pos') hc tk mk
  refine ⟨fun pins s σ H D I h => ps.run pins s σ H D I ?_⟩
  refine ⟨_, h, fun ys H1 ⟨hl, q⟩ => ⟨by omega, fun a na => ⟨a, ys, by rw [List.append_nil], hl, upd_same, fun dx H2 nd nda hx hd hk => ⟨rfl, dx, _, hx, hd, ?_, ?_⟩⟩⟩⟩
  · rw [upd_ne nda] at nd
    exact nd
  · rw [upd_ne nda] at nd
    refine q dx _ nd (fun b o hb => ?_) upd_same
    have nbd := ne_of_none hb nd
    have nba := ne_of_none hb na
    rw [upd_ne nbd, del_ne nba, hk b nba nbd, upd_ne nba]
    exact hb
/-! ### calls that may raise, what is raised told at the caller's slots -/
theorem passF {X : Cx} : Passes (L2.CX X.prog X.w) X E0 := fun _ _ _ _ _ _ _ ⟨_, _, _, _, _, _, _, _, _, _, _, _, q⟩ => q.elim
section
variable {X : Cx} {CX : CXT} {k : Nat} {C : Addr} {ps : List Str} {sp : Sp} {E : L2.St → XK} {x m : Str} {p pos apos : Pos} {e o : Expr} {es : List Expr} {t : TA} {ta : TE}
theorem pe_cdS (D : Dn X.prog X.w X.K X.mg X.base CX k x ps sp) (hr : Room k X.A) (hg : Gl X x) (hx : ∀ σ, PassesAt CX X σ (E σ)) (ha : PA X (e :: es) t)
    (hdb : (x == ("__debug__" : Str)) = false := by decide) (he : starEach (e :: es) X.env = (false, eval e X.env) :: starEach es X.env := by rfl) (hpl : (backTo pos (starEach es X.env)).any (·.1) = false := by rfl) :
    PE X (.Call (.Name x p) (e :: es) [] pos) (tCallS sp E t) := by
  obtain ⟨f, fd, F, m, kp, b⟩ := D.ex
  exact pe_callS F hr hg m kp b hx ha hdb he hpl
def tMethX (C : Addr) (m : Str) (sp : Sp) (E : L2.St → XK) (ta : TE) (t : TA) : TE := fun σ H Q => ta σ H fun x H1 => ∃ a dx fs, x = .ref a ∧ H1 a = some (.ins C dx fs) ∧ fs.lookup m = none ∧ t σ H1 fun vs H2 => sp (x :: vs) H2 Q (E σ)
theorem pe_mdS {pl : Sem Bool} (ho : PE X o ta) (N : Nn X.prog X.w X.K X.mg X.base CX k C m ps sp) (hr : Room k X.A) (hx : ∀ σ, PassesAt CX X σ (E σ)) (ha : PA X (e :: es) t)
    (hst : starEach (e :: es) X.env = (false, eval e X.env) :: starEach es X.env := by rfl) (hpl : (backTo pos (starEach es X.env)).any (·.1) = false := by rfl)
    (ht : eval (.Call (.Attribute o m apos) (e :: es) [] pos) X.env = (do
      let ov ← eval o X.env
      standAt apos.atName
      let (f, first) ← holding [ov] (getMethod ov m pl)
      callWith pos f first (backTo pos (starEach (e :: es) X.env)) (backToKw pos (keywordEach [] X.env))) := by rfl) : PE X (.Call (.Attribute o m apos) (e :: es) [] pos) (tMethX C m sp E ta t) := by
  obtain ⟨f, fd, hm, F, hb⟩ := N.ex
  refine ⟨fun pins s σ H Q I h => ?_⟩
  refine PySem.W.methodCall_KW (pl := pl) (thn (ho.run pins s σ H _ I h) fun u s1 ⟨x, H1, I1, rx, a, dx, fs, ex, ea, l, q⟩ => ?_) ht
  subst ex
  obtain rfl : u = Value.ref a := rx
  refine getmeth_ok I1 ea N.cl hm l ?_
  refine PySem.W.callWith_K (first := [.ref a]) (h₀ := X.base) I.ok.mod.kin hm.kp (thn (ha.run pos pins s1 σ H1 _ I1 q) fun us s2 ⟨vs, H2, I2, r, q2⟩ => ⟨I2.kIn, ?_⟩) hst hpl
  exact run_fnS (us := .ref a :: us) (vs := .ref a :: vs) F hr hb (hx σ) I2 (.cons rfl r) q2
def tMakeX (C : Addr) (sp : Sp) (E : L2.St → XK) (t : TA) : TE := fun σ H Q => t σ H fun vs H1 => Made H1 C fun x H2 => sp (.ref x :: vs) H2 (fun v H3 => v = .non ∧ Q (.ref x) H3) (E σ)
theorem run_makeS {pins : List (Addr × Obj)} {σ : L2.St} {H : Hp} {s : Shared} {Q : VK} {f : Addr} {fd : FuncData} {us : List Value} {vs : List V} (M : Mk X.K C f) (F : FnOk X.prog X.w X.K X.mg X.base CX k f fd ps sp) (hr : Room (k + 1) X.A) (hb : Binds X.K fd ps [])
    (hx : PassesAt CX X σ (E σ)) (I : Inv X pins σ H s) (r : Vals vs us)
    (h : ∀ x dx, H x = none → H dx = none → dx ≠ x → sp (.ref x :: vs) (upd (upd H dx (.own x)) x (.ins C dx [])) (fun v H2 => v = .non ∧ Q (.ref x) H2) (E σ)) :
    wpAny (model X.prog X.w) X.A (call (.ref C) us) (EP X pins σ Q) X.xe s := by
  have hq := h (s.heap.objs.size + 1) s.heap.objs.size (I.hok.fresh (Nat.le_succ _)) (I.hok.fresh (Nat.le_refl _)) (Nat.ne_of_lt (Nat.lt_succ_self _))
  have I2 := Inv.made (C := C) I
  have r2 : Vals (V.ref (s.heap.objs.size + 1) :: vs) (Value.ref (s.heap.objs.size + 1) :: us) := .cons rfl r
  have hl : (Value.ref (s.heap.objs.size + 1) :: us).length = ps.length := by
    have e := r2.length
    rw [F.len _ _ _ _ hq] at e
    exact e.symm
  have b := hb { s with heap := _, toks := _ } (Value.ref (s.heap.objs.size + 1) :: us) I2.kIn (by rw [List.append_nil]; exact hl)
  rw [List.append_nil] at b
  refine wpAny_call (make_map (f := f) I.kIn M.makes M.init (beq_iff_eq.mp M.fn) (codeAny_mono (F.run _ X.stack _ _ ⟨Value.ref (s.heap.objs.size + 1) :: us, []⟩ (Value.ref (s.heap.objs.size + 1) :: us) _ _ (E σ) (hr.make C us [])
    (I2.env0.make C us []) b r2 hq) fun r s' hq' => ?_))
  cases r with
  | error e => exact hx pins _ _ e s' I2 hq'
  | ok fl =>
    cases fl with
    | ret u =>
      obtain ⟨v, H', I3, rv, ev, q3⟩ := I2.after hq'
      subst ev
      exact ⟨rv, ⟨V.ref (s.heap.objs.size + 1), H', I3, rfl, q3⟩⟩
    | next => exact False.elim hq'
    | brk => exact False.elim hq'
    | cont => exact False.elim hq'
theorem pe_mkS (M : Mn X.prog X.w X.K X.mg X.base CX k C x ps sp) (hr : Room (k + 1) X.A) (hg : Gl X x) (hx : ∀ σ, PassesAt CX X σ (E σ)) (ha : PA X (e :: es) t)
    (hdb : (x == ("__debug__" : Str)) = false := by decide) (he : starEach (e :: es) X.env = (false, eval e X.env) :: starEach es X.env := by rfl) (hpl : (backTo pos (starEach es X.env)).any (·.1) = false := by rfl) :
    PE X (.Call (.Name x p) (e :: es) [] pos) (tMakeX C sp E t) := by
  obtain ⟨f, fd, mk, F, hm, b⟩ := M.ex
  refine ⟨fun pins s σ H Q I h => ?_⟩
  refine wpAny_Call_Name_kw (ld_glob I hg hm ?_ hdb)
  refine PySem.W.callWith_K (h₀ := X.base) I.ok.mod.kin mk.kp (thn (ha.run pos pins s σ H _ I h) fun us s1 ⟨vs, H1, I1, r, q⟩ => ⟨I1.kIn, ?_⟩) he hpl
  exact run_makeS mk F hr b (hx σ) I1 r q
end
/-! ### a caught exception's field -/
def tXfA (K : PySem.W.Frag) (a : Addr) (cls : Value) (d : Option Addr) (f : Str) (te : TE) : TE := fun σ H Q => te σ H fun x H1 => x = .ref a ∧ ∃ C : Addr, cls = .ref C ∧ XfC K C ∧ PySem.W.findIn K (.ref C) f = some none ∧ ∃ (dd : Addr) (fs : List (Str × V)) (v : V), d = some dd ∧ H1 dd = some (.xd fs) ∧ fs.lookup f = some v ∧ Q v H1
theorem pe_xfA {X : Cx} {K : PySem.W.Frag} {a : Addr} {oe : Obj} {cls : Value} {d : Option Addr} {pn : List (Addr × Obj)} {e : Expr} {te : TE} {pos : Pos} {n : Str} (hz : Zc cls d oe) (hf : ∃ vs, oe.data = .fields vs) (he : PE (X.suite a ((a, oe) :: pn)) e te) (hb : attributeBase e n X.env (eval e X.env) = eval e X.env := by rfl) (hK : X.K = K := by rfl) :
    PE (X.suite a ((a, oe) :: pn)) (.Attribute e n pos) (tXfA K a cls d n te) := by
  subst hK
  refine ⟨fun pins s σ H Q I h => ?_⟩
  refine attr_of hb (thn (he.run pins s σ H _ I h) fun u s1 hh => ?_)
  obtain ⟨x, H1, I1, rx, ex, C, ec, T, hno, dd, fs, v, ed, ea, l, q⟩ := hh
  subst ex
  obtain rfl : u = Value.ref a := rx
  subst ec
  subst ed
  obtain ⟨ha, _⟩ := I1.pin (a, oe) (List.mem_append_left _ List.mem_cons_self)
  obtain ⟨vs, hd⟩ := hf
  have hx : ObjOk X.prog X.w H1 s1.heap dd (.xd fs) := I1.hok dd _ ea
  obtain ⟨mA, hns, hr⟩ := hx
  obtain ⟨od, ho, hl⟩ := lookIn_ns hns
  obtain ⟨u, hu, ru⟩ := RelO.some_of (v := v) (o := mA n) (by rw [← l]; exact hr n)
  have J : PySem.W.InstAt s1.heap a oe C (some od) := ⟨ha, hz.1, by unfold PySem.W.notCls; rw [hd] <;> rfl, by rw [hz.2]; exact ho⟩
  exact HandSPX.exc_get I1.kIn J T.ga T.gg T.exC (PySem.W.findObj_own T.hdC hno rfl (by rw [hl, hu])) (handed_of ru) ⟨v, H1, I1.tok _, ru, q⟩
end Rx
namespace Rx
open PySem PySem.Spec PyProof.Rows L2 Rb
theorem exm_of2 {K : PySem.W.Frag} {C : Addr} {cls : Value} {b : Bool} (h1 : PySem.W.subIn K (.ref C) (.type "BaseException") = some true) (hdct : PySem.W.hasDictIn K C = true) (ht : PySem.W.typeIn K (.ref C) = some (.type "type")) (h4 : PySem.W.subIn K cls (.ref C) = some b) : PySem.W.exmOne K cls (.ref C) = some b := PySem.W.exm_ref h1 hdct ht h4
end Rx
namespace Rx
open PySem PySem.Spec PyProof.Rows L2 Rb
/-! ### o[a:c] = ys -/
def gSlS (to tl th : TE) : TG := fun v σ H Q => to σ H fun x H1 => tl σ H1 fun a H2 => th σ H2 fun c H3 => ∃ (l b : Addr) (xs ys : List V) (i j : Int), x = .ref l ∧ v = .ref b ∧ a = .int i ∧ c = .int j ∧ H3 l = some (.lst xs) ∧ H3 b = some (.lst ys) ∧ l ≠ b ∧ 0 ≤ i ∧ i ≤ j ∧ j ≤ xs.length ∧
  xs.length + ys.length ≤ sizeLine ∧ Upd H3 l (.lst (xs.take i.toNat ++ ys ++ xs.drop j.toNat)) fun H4 => Q σ H4
theorem pg_slset {X : Cx} {o lo hi : Expr} {to tl th : TE} {p2 pos : Pos} (ho : PE X o to) (hl : PE X lo tl) (hh : PE X hi th)
    (ha : ∀ v, assign (.Subscript o (.Slice (some lo) (some hi) none p2) pos) X.env v = (do
      let ov ← holding [v] (eval o X.env)
      let iv ← holding [v, ov] (eval (.Slice (some lo) (some hi) none p2) X.env)
      standAt pos
      holding [v, ov, iv] (setItem ov iv v)
      release [iv, v, ov] []) := by intro _; rfl) : PG X (.Subscript o (.Slice (some lo) (some hi) none p2) pos) (gSlS to tl th) := by
  refine ⟨fun pins s σ H v u Q I r h => ?_⟩
  rw [ha]
  refine wpAny_bind (wpAny_holding (thn (ho.run pins s σ H _ I h) fun ov s1 ⟨x, H1, I1, r1, q1⟩ => ?_))
  refine wpAny_bind (wpAny_holding ?_)
  refine wpAny_Slice ?_
  rw [evalPart_some]
  refine thn (hl.run pins s1 σ H1 _ I1 q1) fun vl s2 ⟨a, H2, I2, pl, q2⟩ => ?_
  rw [evalPart_some]
  refine thn (hh.run pins s2 σ H2 _ I2 q2) fun vu s3 ⟨c, H3, I3, pu, q3⟩ => ?_
  rw [evalPart_none]
  refine wpAny_pure ?_
  obtain ⟨l, b, xs, ys, i, j, rfl, rfl, rfl, rfl, hl3, hb3, ne, h0, hij, hj, hz, q⟩ := q3
  cases r
  cases r1
  have I4 : Inv X pins σ H3 { s3 with heap := s3.heap.push { cls := .type "slice", data := .fields #[vl, vu, .none] } } := I3.kept (t' := s3.toks) fun b ob q => Heap.get?_push_of_some _ q
  refine wpAny_bind (wpAny_standAt (wpAny_bind (wpAny_holding ?_)))
  refine set_slice (s := { s3 with heap := s3.heap.push { cls := .type "slice", data := .fields #[vl, vu, .none] } }) I4 hl3 hb3 ne (Heap.IsSliceOf.new ..) pl pu h0 hij hj hz fun s5 I5 => ?_
  exact wpAny_release ⟨σ, _, I5, q⟩
end Rx
namespace Rx
open PySem PySem.Spec PyProof.Rows L2 Rb
theorem Loop.rangeC {lo c : Int} {n : Nat} {g : TG} {tb : TS} {D : Ends} {σ : L2.St} {H : Hp} (Pv : Nat → L2.St → Hp → Prop) (h0 : Pv 0 σ H)
    (hs : ∀ i σ H, i < n → Pv i σ H → g (.int (lo + (i : Nat) * c)) σ H fun σ2 H2 => tb { D with nx := Pv (i + 1), ct := Pv (i + 1), bk := D.nx } σ2 H2) (hd : ∀ σ H, Pv n σ H → D.nx σ H) : Loop (Itc lo c n) g tb D σ H := for_rangeC Pv h0 hs hd
/-! heaps that keep all but some objects -/
def OffS (S : List Addr) (H H' : Hp) : Prop := ∀ b o, b ∉ S → H b = some o → H' b = some o
theorem OffS.refl {S : List Addr} {H : Hp} : OffS S H H := fun _ _ _ h => h
theorem OffS.trans {S : List Addr} {H H1 H2 : Hp} (p : OffS S H H1) (q : OffS S H1 H2) : OffS S H H2 := fun b o n h => q b o n (p b o n h)
theorem OffS.same {S : List Addr} {H H1 : Hp} (s : Same H H1) : OffS S H H1 := fun b o _ h => s b o h
theorem OffS.off {S : List Addr} {a : Addr} {H H1 : Hp} (o : Off a H H1) (h : a ∈ S) : OffS S H H1 := fun b u n e => o b u (fun z => n (z ▸ h)) e
theorem OffS.toSame {S : List Addr} {H0 H H1 : Hp} (s : Same H0 H) (o : OffS S H H1) (hn : ∀ a ∈ S, H0 a = none) : Same H0 H1 := fun b u e => o b u (fun m => by rw [hn b m] at e; cases e) (s b u e)
end Rx

set_option Elab.async false
set_option linter.all false
set_option maxRecDepth 100000
set_option maxHeartbeats 4000000
/-! texts -/
namespace Tx
open PySem PySem.Spec PyProof.Rows L2 Rb SX
def wds (ws : List (List Nat)) : List V := ws.map fun w => V.str (S w)
theorem wds_eq (ws : List (List Nat)) : (ws.map S).map V.str = wds ws := by
  rw [List.map_map]
  rfl
def rJoinS (K : PySem.W.Frag) : V → List V → Hp → VK → Prop := fun x xs H Q => ∃ (a : List Nat) (p : Addr) (ys : List (List Nat)), x = .str (S a) ∧ xs = [.ref p] ∧ (SqL K H p (wds ys) ∨ SqT K H p (wds ys)) ∧ (ys.map (·.length)).sum + ys.length * a.length ≤ 16777216 ∧ Q (.str (S (TL.joinL a ys))) H
theorem mt_joinS {X : Cx} {K : PySem.W.Frag} (h : X.K = K := by rfl) : MtR X "str.join" (rJoinS K) := by
  subst h
  intro pins s σ H x xs v us Q I rx rs q
  obtain ⟨a, p, ys, ex, es, hp, hz, q⟩ := q
  refine mt_join pins s σ H x xs v us Q I rx rs ⟨S a, p, ys.map S, ex, es, ?_, ?_, ?_⟩
  · rw [wds_eq]
    exact hp
  · rw [lens, List.length_map, S_len]
    exact hz
  · rw [join_S]
    exact q
def rSplitS : V → List V → Hp → VK → Prop := fun x xs H Q => ∃ (a b : List Nat), x = .str (S a) ∧ xs = [.str (S b)] ∧ b ≠ [] ∧ b.all (· < 256) = true ∧ a.length ≤ 100000 ∧ New H (.lst (wds (TL.spl b 0 [] a))) fun p H2 => Q (.ref p) H2
theorem mt_splitS {X : Cx} : MtR X "str.split" rSplitS := by
  intro pins s σ H x xs v us Q I rx rs q
  obtain ⟨a, b, ex, es, hb, hk, hz, q⟩ := q
  refine mt_split pins s σ H x xs v us Q I rx rs ⟨S a, S b, ex, es, ?_, ?_, ?_⟩
  · rw [S_len]
    cases b with
    | nil => exact absurd rfl hb
    | cons c r => rfl
  · rw [S_len, sizeLine_eq]
    omega
  · rw [split_S hb hk]
    intro p np
    rw [wds_eq]
    exact q p np
theorem inV_str (n : List Nat) : ∀ ws : List (List Nat), inV (.str (S n)) (wds ws) = decide (n ∈ ws)
  | [] => rfl
  | a :: r => by
    have e : inV (.str (S n)) (wds (a :: r)) = (eqV (.str (S a)) (.str (S n)) || inV (.str (S n)) (wds r)) := rfl
    rw [e, inV_str n r]
    have e2 : eqV (.str (S a)) (.str (S n)) = decide (a = n) := by
      have : eqV (.str (S a)) (.str (S n)) = decide (S a = S n) := by
        unfold eqV
        rfl
      rw [this]
      by_cases h : a = n
      · rw [decide_eq_true h, decide_eq_true (congrArg S h)]
      · rw [decide_eq_false h, decide_eq_false fun g => h (S_inj g)]
    rw [e2]
    by_cases h : a = n
    · subst h
      simp
    · simp [h, Ne.symm h]
theorem flat_wds : ∀ ws : List (List Nat), (wds ws).all flatV = true
  | [] => rfl
  | _ :: r => flat_wds r
theorem str_S (z : Str) : z = S z.cps.toList := (S_tl z).symm
theorem pe_gr {X : Cx} {x : Str} {a : Addr} {pos : Pos} (hg : Gl X x) (hm : X.mg x = some (.ref a)) (hd : (x == ("__debug__" : Str)) = false := by decide) : PE X (.Name x pos) (tC (.ref a)) := pe_glob (v := .ref a) hg hm rfl hd
theorem Loop.strL {l : List Nat} {g : TG} {tb : TS} {D : Ends} {σ : L2.St} {H : Hp} (Pv : Nat → L2.St → Hp → Prop) (h0 : Pv 0 σ H)
    (hs : ∀ i c σ H, l[i]? = some c → Pv i σ H → g (.str ⟨#[c]⟩) σ H fun σ2 H2 => tb { D with nx := Pv (i + 1), ct := Pv (i + 1), bk := D.nx } σ2 H2) (hd : ∀ σ H, Pv l.length σ H → D.nx σ H) : Loop (Its (S l)) g tb D σ H :=
  Loop.str (z := S l) Pv h0 (fun i c σ H h p => hs i c σ H (by simpa using h) p) (fun σ H p => hd σ H (by simpa using p))
theorem Cmp.pureS {l : List Nat} {j : Nat} {te : TE} {vs : List Nat} {σ : L2.St} {H1 : Hp} {Q : VK} (f : Nat → V) (hz : l.length ≤ 100000) (hw : ∀ x, wipe ((wipe σ vs).set j (some x)) vs = wipe σ vs)
    (he : ∀ c H2 (R : VK), c ∈ l → Same H1 H2 → (∀ H3, Same H2 H3 → R (f c) H3) → te ((wipe σ vs).set j (some (.str ⟨#[c]⟩))) H2 R)
    (hd : ∀ d H2, H1 d = none → Same H1 H2 → H2 d = some (.lst (l.map f)) → Q (.ref d) H2) : Cmp (Its (S l)) (gName j) tYes te vs σ H1 Q := by
  intro D nD
  refine ⟨fun i m H => m = l.length - i ∧ i ≤ l.length ∧ Same H1 H ∧ H D = some (.lst ((l.take i).map f)), ⟨l.length, rfl, Nat.zero_le _, same_new nD, upd_same⟩, ?_⟩
  rintro i m H ⟨rfl, hi, s2, h2⟩
  have hsz : (S l).cps.size = l.length := by simp
  by_cases hlt : i < l.length
  · refine .inr ⟨show i < (S l).cps.size by omega, fun H' => Same H1 H' ∧ H' D = some (.lst ((l.take (i + 1)).map f)), fun H' ⟨p1, p2⟩ => ⟨l.length - (i + 1), by omega, rfl, hlt, p1, p2⟩, fun x H' y => ?_⟩
    obtain ⟨e, c, hc, ex⟩ := y
    subst e ex
    have hx : l[i]? = some c := by simpa using hc
    refine ⟨hw _, he c _ _ (List.mem_of_getElem? hx) s2 fun H3 s3 => ?_⟩
    refine ⟨_, s3 _ _ h2, sz100l (by rw [List.length_map, List.length_take]; omega), Same.off (s2.trans s3) nD Off.upd, ?_⟩
    rw [upd_same, take_snoc hx, List.map_append]
    rfl
  · have e : i = l.length := by omega
    subst e
    rw [List.take_length] at h2
    exact .inl ⟨show (S l).cps.size ≤ l.length by omega, hd D H nD s2 h2⟩
theorem takes0F {X : Cx} : Takes X (fun _ _ _ _ => False) := takes0
end Tx

set_option Elab.async false
set_option linter.all false
set_option maxRecDepth 100000
set_option maxHeartbeats 4000000
/-! defs that are called where nothing of a repr is under way; repr -/
namespace Rg
open PySem PySem.Spec PyProof.Rows L2 Rb Rx
structure FnOkG (P : Program) (w : World) (K : PySem.W.Frag) (mg : Str → Option Value) (base : Heap) (CX : CXT) (k : Nat) (f : Addr) (fd : FuncData) (ps : List Str) (sp : Sp) : Prop where
  len : ∀ vs H Q E, sp vs H Q E → vs.length = ps.length
  run : ∀ (A : Around) (outer : List Env) (s : Shared) (H : Hp) (args : Args) (us : List Value) (vs : List V) (Q : VK) (E : XK), Room k A → A.guards = some [] → Env0 P w K mg base A outer s H → BindsTo s fd args (ps.zip us) → Vals vs us → sp vs H Q E →
    codeAny (model P w) A (.call (.ref f) args) (CR CX outer P w H s Q E) s
theorem fn_ofG {CX : CXT} {P : Program} {w : World} {K : PySem.W.Frag} {mg : Str → Option Value} {base : Heap} {k : Nat} {f : Addr} {name qual : Str} {params : Arguments} {body : List Stmt} {scope : Scope} {dV kV doc pm cdv ct oc : Value} {an od : Option Addr}
    {osl : Array (Option Value)} {N ps : List Str} {sp : Sp} (lk : K.lookup f = some ⟨oc, od, .func (PySem.W.fnOf name qual params body scope dV kV doc pm an cdv ct), osl⟩) (hcd : PySem.W.codeIn K cdv qual = true) (S : FnScope N ps scope)
    (len : ∀ vs H Q E, sp vs H Q E → vs.length = ps.length)
    (hbody : ∀ (A : Around) (outer : List Env) (s : Shared) (H : Hp) (vs : List V) (Q : VK) (E : XK), Room k (A.deeper (envOfC qual scope s.heap.objs.size f cdv)) → A.guards = some [] → sp vs H Q E →
      ∃ t, PSs (cxOf CX P w K mg base N qual scope f cdv A outer s H E) body t ∧ t { nx := fun _ H' => Q .non H', rt := Q } (start N vs) H) :
    FnOkG P w K mg base CX (k + 1) f (PySem.W.fnOf name qual params body scope dV kV doc pm an cdv ct) ps sp := by
  refine ⟨len, fun A outer s H args us vs Q E hr hA e0 hb r hsp => ?_⟩
  have hl := len _ _ _ _ hsp
  have KX : K.In s.heap := e0.mod.kin.keeps fun b o e => (e0.bs b o e).1
  have lim : s.heap.NoLimit := e0.mod.nolimit.keeps fun b o e => (e0.bs b o e).1
  have hkind : ∀ y ∈ ps.zip us, scope.names.lookup y.1 = some .local ∨ (scope.names.lookup y.1 = some .cell ∧ ((cellsFrom (s.heap.objs.size + 1) scope.names []).lookup y.1).isSome = true) := fun ⟨n, v⟩ hy => by
    rcases S.par n (List.of_mem_zip hy).1 with q | q
    · exact .inl q
    · exact .inr ⟨q, PySem.W.cellsFrom_some _ _ _ (.inl q)⟩
  refine codeAny_call_function hr.depth (KX _ _ lk) rfl S.co S.gen rfl (PySem.W.codeRec_of KX hcd) (hb _ _ _ _ ?_)
  refine wpAny_newFunctionEnv_cells S.kind hkind fun env he s1 x => ?_
  subst he
  refine ⟨lim.keeps x.toInCall.keep, codeAny_func ?_⟩
  obtain ⟨t, ht, hq⟩ := hbody A outer s H vs Q E (hr.deeper _) hA hsp
  have I : Inv (cxOf CX P w K mg base N qual scope f cdv A outer s H E) [] (start N vs) H s1 := inv_start S hr.hd e0 hl r x
  refine wpAny_mono (ht.run [] s1 (start N vs) H _ I hq) (fun fl s' hs => ?_) fun e s' hs => hs
  have fin : ∀ {σ' : L2.St} {H' : Hp} {v : V} {u : Value}, Inv (cxOf CX P w K mg base N qual scope f cdv A outer s H E) [] σ' H' s' → RelV v u → Q v H' → CE outer P w H s Q u s' :=
    fun {σ' H' v u} J rv q => ⟨v, H', J.os, J.bare, J.base, J.hok, rv, q⟩
  cases fl with
  | ret u =>
    obtain ⟨v, σ', H', J, rv, q⟩ := hs
    exact fin J rv q
  | next =>
    obtain ⟨σ', H', J, q⟩ := hs
    exact fin (v := V.non) (u := Value.none) J rfl q
  | brk =>
    obtain ⟨_, _, _, q⟩ := hs
    exact False.elim q
  | cont =>
    obtain ⟨_, _, _, q⟩ := hs
    exact False.elim q
section
variable {P : Program} {w : World} {K : PySem.W.Frag} {mg : Str → Option Value} {base : Heap}
theorem Fun_okG {x qual : Str} {st : Stmt} {f : Addr} {fd : FuncData} {N ps : List Str} {k : Nat} {sp : Sp} (F : Fun K x qual st f fd) (S : FnScope N ps (defScope st)) (len : ∀ vs H Q E, sp vs H Q E → vs.length = ps.length)
    (hbody : ∀ (cdv : Value) (A : Around) (outer : List Env) (s : Shared) (H : Hp) (vs : List V) (Q : VK) (E : XK), Room k (A.deeper (envOfC qual (defScope st) s.heap.objs.size f cdv)) → A.guards = some [] → sp vs H Q E →
      ∃ t, PSs (cxOf CX0 P w K mg base N qual (defScope st) f cdv A outer s H E).nox (defBody st) t ∧ t { nx := fun _ H' => Q .non H', rt := Q } (start N vs) H) : FnOkG P w K mg base CX0 (k + 1) f fd ps sp := by
  obtain ⟨oc, od, kV, doc, pm, an, cdv, ct, osl, rfl, lk, hcd⟩ := F.ex
  refine fn_ofG lk hcd S len fun A outer s H vs Q E hr hA hsp => ?_
  obtain ⟨t, h, q⟩ := hbody cdv A outer s H vs Q E hr hA hsp
  exact ⟨t, h.nox, q⟩
end
structure DnG (P : Program) (w : World) (K : PySem.W.Frag) (mg : Str → Option Value) (base : Heap) (CX : CXT) (k : Nat) (x : Str) (ps : List Str) (sp : Sp) : Prop where
  ex : ∃ f fd, FnOkG P w K mg base CX k f fd ps sp ∧ mg x = some (.ref f) ∧ PySem.W.keepIn K (.ref f) = true ∧ Binds K fd ps []
section
variable {X : Cx} {CX : CXT} {k : Nat} {f : Addr} {fd : FuncData} {ps : List Str} {ds : List Value} {dvs : List V} {sp : Sp} {E : XK} {x : Str} {p pos : Pos} {e : Expr} {es : List Expr} {t : TA}
theorem run_fnG {pins : List (Addr × Obj)} {σ : L2.St} {H : Hp} {s : Shared} {Q : VK} {us : List Value} {vs : List V} (F : FnOkG X.prog X.w X.K X.mg X.base CX k f fd ps sp) (hr : Room k X.A) (hA : X.A.guards = some []) (hb : Binds X.K fd ps ds) (hd : Vals dvs ds) (hx : Passes CX X E)
    (I : Inv X pins σ H s) (r : Vals vs us) (h : sp (vs ++ dvs) H Q E) : wpAny (model X.prog X.w) X.A (call (.ref f) us) (EP X pins σ Q) X.xe s := by
  have r2 : Vals (vs ++ dvs) (us ++ ds) := r.append hd
  have hl : (us ++ ds).length = ps.length := by rw [← r2.length]; exact F.len _ _ _ _ h
  refine wpAny_call (codeAny_mono (F.run X.A X.stack s H ⟨us, []⟩ (us ++ ds) (vs ++ dvs) Q E hr hA I.env0 (hb s us I.kIn hl) r2 h) fun r s' hq => ?_)
  cases r with
  | error e => exact hx pins σ H s e s' I hq
  | ok fl =>
    cases fl with
    | ret u => exact I.after hq
    | next => exact False.elim hq
    | brk => exact False.elim hq
    | cont => exact False.elim hq
theorem pe_cdG (D : DnG X.prog X.w X.K X.mg X.base CX k x ps sp) (hA : X.A.guards = some []) (hr : Room k X.A) (hg : Gl X x) (hx : Passes CX X E) (ha : PA X (e :: es) t)
    (hdb : (x == ("__debug__" : Str)) = false := by decide) (he : starEach (e :: es) X.env = (false, eval e X.env) :: starEach es X.env := by rfl) (hpl : (backTo pos (starEach es X.env)).any (·.1) = false := by rfl) :
    PE X (.Call (.Name x p) (e :: es) [] pos) (tCall sp [] E t) := by
  obtain ⟨f, fd, F, m, kp, b⟩ := D.ex
  refine ⟨fun pins s σ H Q I h => ?_⟩
  refine wpAny_Call_Name_kw (ld_glob I hg m ?_ hdb)
  refine PySem.W.callWith_K (h₀ := X.base) I.ok.mod.kin kp (thn (ha.run pos pins s σ H _ I h) fun us s1 ⟨vs, H1, I1, r, q⟩ => ⟨I1.kIn, ?_⟩) he hpl
  exact run_fnG F hr hA b .nil hx I1 r q
theorem pe_cdG0 (D : DnG X.prog X.w X.K X.mg X.base CX k x ps sp) (hA : X.A.guards = some []) (hr : Room k X.A) (hg : Gl X x) (hx : Passes CX X E)
    (hdb : (x == ("__debug__" : Str)) = false := by decide) : PE X (.Call (.Name x p) [] [] pos) (tCall sp [] E tNil) := by
  obtain ⟨f, fd, F, m, kp, b⟩ := D.ex
  refine ⟨fun pins s σ H Q I h => ?_⟩
  refine wpAny_Call_Name_kw (ld_glob I hg m ?_ hdb)
  exact PySem.W.callWith_K0 I.kIn kp (run_fnG (us := []) F hr hA b .nil hx I .nil h)
end
/-! ### the head -/
theorem law_callG {P : Program} {w : World} {K : PySem.W.Frag} {mg mb : Str → Option Value} {CX : CXT} {k : Nat} {fa a : Addr} {fd : FuncData} {x : Str} {sp : Sp} {s₁ : Shared} {vs : List Value} {ns : List Int}
    (KX : K.In s₁.heap) (hns : s₁.heap.Ns mainGlobals mg) (hb : s₁.heap.Ns builtinsNs mb) (hbb : ∀ x : Str, x ≠ "__name__" → mb x = bootBuiltins x) (hlim : s₁.heap.NoLimit) (hg : s₁.gens = #[])
    (ha : s₁.heap.get? a = some { cls := .type "list", data := .seq vs.toArray }) (hi : IntsAre vs ns) (hl : ns.length ≤ sizeLine) (hr : Room k callerA)
    (F : ∀ base : Heap, K.In base → base.Ns mainGlobals mg → FnOkG P w K mg base CX k fa fd [x] sp) (hbind : ∀ (s : Shared) (u : Value), BindsTo s fd ⟨[u], []⟩ [(x, u)])
    (hsp : ∀ H : Hp, Only H → SqL K H a (ns.map V.int) → sp [.ref a] H (fun v _ => v = .bl true) fun _ _ _ => False)
    (hCX : ∀ H e s', CX [] H s₁ (fun _ _ _ => False) e s' → False) :
    codeAny (model P w) callerA (.call (.ref fa) ⟨[.ref a], []⟩) (fun r s' => r = .ok (.ret (.bool true)) ∧ OldK s₁.heap s'.heap ∧ s'.os = s₁.os ∧ AllBare s'.gens) s₁ := by
  have rv := vals_ints hi
  have lenV := hi.length
  have core : ∀ H : Hp, Only H → SqL K H a (ns.map V.int) → HOk P w H s₁.heap → (∀ b, H b ≠ none → b = a) → (H a ≠ none → K.lookup a = none) →
      codeAny (model P w) callerA (.call (.ref fa) ⟨[.ref a], []⟩) (fun r s' => r = .ok (.ret (.bool true)) ∧ OldK s₁.heap s'.heap ∧ s'.os = s₁.os ∧ AllBare s'.gens) s₁ := by
    intro H hO hS hok hA hK
    have base_of : ∀ {b : Addr} {o : Obj}, s₁.heap.get? b = some o → H b = none → (hidT s₁.heap H).get? b = some o := fun e n => hidT_get e n
    have noA : ∀ {b : Addr} {o : Obj} {es : Array DictEntry} {ep : Nat}, s₁.heap.get? b = some o → o.data = .dict es ep → H b = none := fun {b o es ep} e d => by
      cases q : H b with
      | none => rfl
      | some u =>
        have e' : b = a := hA b (by rw [q]; simp)
        subst e'
        rw [ha] at e; cases e
        have d' : Data.seq vs.toArray _ = Data.dict es ep := d
        cases d'
    have nsK : ∀ {b : Addr} {m : Str → Option Value}, s₁.heap.Ns b m → (hidT s₁.heap H).Ns b m := fun {b m} ⟨o, es, ep, e, d, r⟩ => ⟨o, es, ep, base_of e (noA e d), d, r⟩
    have hKb : K.In (hidT s₁.heap H) := fun b o e => base_of (KX b o e) (by
      cases q : H b with
      | none => rfl
      | some u =>
        have e' : b = a := hA b (by rw [q]; simp)
        subst e'
        rw [hK (by rw [q]; simp)] at e; cases e)
    have hM : Mod K mg (hidT s₁.heap H) := ⟨hKb, nsK hns, ⟨mb, nsK hb, hbb⟩, let ⟨mc, h1, h2⟩ := hlim; ⟨mc, nsK h1, h2⟩⟩
    have e0 : Env0 P w K mg (hidT s₁.heap H) callerA [] s₁ H := ⟨rfl, hM, fun b o e => of_hidT e, Nat.le_of_eq (hidT_size _ _), trivial, fun b hb => absurd (show b ∈ ([] : List Addr) from hb) (by simp), hok, .of_eq hg⟩
    refine codeAny_mono ((F _ hKb (nsK hns)).run callerA [] s₁ H ⟨[.ref a], []⟩ [.ref a] [.ref a] _ _ hr rfl e0 (hbind s₁ (.ref a)) (.cons rfl .nil) (hsp H hO hS)) fun r s' h => ?_
    cases r with
    | error e => exact (hCX H e s' h).elim
    | ok fl =>
      cases fl with
      | next => exact False.elim h
      | brk => exact False.elim h
      | cont => exact False.elim h
      | ret u =>
        obtain ⟨v, H', os, bare, un, hok', r', q⟩ := h
        have q' : v = .bl true := q
        subst q'
        obtain rfl : u = Value.bool true := r'
        refine ⟨rfl, OldK.of_keep fun b o e => ?_, os, bare⟩
        cases q : H b with
        | none => exact un.keep b o e q (by intro z; exact absurd (show b ∈ ([] : List Addr) from z) (by simp)) (by simp)
        | some u =>
          rcases hO b with z | ⟨ob, xs, z⟩
          · rw [q] at z; cases z
          · have z2 := un.frzs b ob _ z
            obtain ⟨e1, _⟩ := hok b _ z
            obtain ⟨e2, _⟩ := hok' b _ z2
            rw [e] at e1; cases e1
            exact e2
  cases hk : K.lookup a with
  | some o =>
    have e := KX a o hk
    rw [ha] at e
    cases e
    refine core (fun _ => none) (fun _ => .inl rfl) (.inr ⟨_, vs.toArray, _, hk, rfl, rfl, rfl, by rw [List.size_toArray, lenV]; exact hl, by simpa using rv⟩) (fun b u z => by have z' : (none : Option HO) = some u := z; cases z') (fun b z => absurd rfl z) fun z => absurd rfl z
  | none =>
    refine core (fun b => if b = a then some (.frz { cls := .type "list", data := .seq vs.toArray } (.lst (ns.map V.int))) else none) (fun b => ?_) (.inl (.inr ⟨{ cls := .type "list", data := .seq vs.toArray }, if_pos rfl⟩)) (fun b u z => ?_) (fun b z => ?_) fun _ => hk
    · by_cases hb : b = a
      · exact .inr ⟨_, _, if_pos hb⟩
      · exact .inl (if_neg hb)
    · by_cases hb : b = a
      · have z' := (if_pos hb).symm.trans z
        cases z'
        subst hb
        exact ⟨ha, by rw [List.length_map]; exact hl, vs, _, rv, ha⟩
      · have z' := (if_neg hb).symm.trans z
        cases z'
    · by_cases hb : b = a
      · exact hb
      · exact absurd (if_neg hb) z
theorem walk_ofG {l : PySem.W.OpenLaw} {n k : Nat} {q : Program} {loose : List Str} {XP : (Str → Option Value) → Heap → Prop} {YP : World → Heap → Prop} {d : DefRec} {K : Params → PySem.W.Frag} {CX : World → CXT} {sp : World → Sp} {x : Str}
    (hn : l.most = some n) (hn2 : n ≤ sizeLine) (hdf : d.params.defaults = []) (hr : Room k callerA)
    (hY : ∀ (w : World) (h : Heap), YP w h → (K w.params).In h)
    (F : ∀ (w : World) (mg : Str → Option Value) (fa : Addr) (h : Heap), (K w.params).In h → h.Ns mainGlobals mg → mg d.name = some (.ref fa) →
      ∃ fd : FuncData, (∀ (s : Shared) (u : Value), BindsTo s fd ⟨[u], []⟩ [(x, u)]) ∧
        ∀ base : Heap, (K w.params).In base → base.Ns mainGlobals mg → FnOkG l.prog w (K w.params) mg base (CX w) k fa fd [x] (sp w))
    (hsp : ∀ (w : World) (H : Hp) (a : Addr) (ns : List Int), ns.length ≤ n → Only H → SqL (K w.params) H a (ns.map V.int) → sp w [.ref a] H (fun v _ => v = .bl true) fun _ _ _ => False)
    (hCX : ∀ (w : World) (H : Hp) (s : Shared) (e : Value) (s' : Shared), CX w [] H s (fun _ _ _ => False) e s' → False) :
    PySem.W.WalkO q loose XP YP l.row.toRowW d [] (fun f vs => PySem.call f vs) := by
  refine Att.attach_call hn hdf fun w s₀ s₁ mg mb fa o pm cd doc a vs ns G Y ho hd hcd hmg hobj hints hlen hg => ?_
  have KX := hY w _ Y
  obtain ⟨fd, hb, hF⟩ := F w mg fa _ KX G.T.g hmg
  exact law_callG KX G.T.g G.T.b G.T.builtins G.T.nolimit hg hobj hints (Nat.le_trans hlen hn2) hr hF hb (fun H hO hS => hsp w H a ns hlen hO hS) fun H e s' => hCX w H s₁ e s'
/-! ### repr -/
/-- things of which repr is told: data, and a flat dict -/
inductive Shw (K : PySem.W.Frag) (H : Hp) : V → PyData → Prop
  | dp {x : V} {d : PyData} (h : Dp K H x d) (n : d.hasDict = false) : Shw K H x d
  | dk {a : Addr} {kvs : List (Key × V)} (h : H a = some (.dK kvs)) (f : kvs.all (fun p => isPd p.2) = true) : Shw K H (.ref a) (.dict (kvs.map fun p => (pd (kV p.1), pd p.2)))
def rRepr (K : PySem.W.Frag) : List V → Hp → VK → Prop := fun xs H Q => ∃ x d, xs = [x] ∧ Shw K H x d ∧ d.showable = true ∧ d.depth ≤ 60 ∧ d.shown.length ≤ sizeLine ∧ Q (.str d.shown) H
theorem call_reprD {X : Cx} {pins : List (Addr × Obj)} {s : Shared} {σ : L2.St} {H : Hp} {Q : VK} {u : Value} {d : PyData} {as : List Addr} (hA : X.A.guards = some []) (hu : X.A.units + 64 < cLine) (I : Inv X pins σ H s) (r : Reads s.heap u d as) (hsm : d.hasDict = true → sysModules ∉ as)
    (hs : d.showable = true) (hd : d.depth ≤ 60) (hz : d.shown.length ≤ sizeLine) (q : Q (.str d.shown) H) : wpAny (model X.prog X.w) X.A (call (.builtin "repr") [u]) (EP X pins σ Q) X.xe s := by
  have fin : ∀ (h' : Heap) (tk : Tok) (u : Tok), (∀ b o, s.heap.get? b = some o → h'.get? b = some o) → EP X pins σ Q (.str d.shown u) { s with heap := h', toks := tk } := fun h' tk u hk =>
    ⟨.str d.shown, H, I.kept hk, ⟨u, rfl⟩, q⟩
  cases r with
  | none => exact PySem.P.repr_of_none (fin s.heap _ _ fun _ _ e => e)
  | bool b => exact PySem.P.repr_of_bool (by have := fin s.heap (s.toks + 1) s.toks fun _ _ e => e; simpa only [PyData.shown] using this)
  | int i t => exact PySem.P.repr_of_int (by simpa [PyData.showable] using hs) (by have := fin s.heap (s.toks + 1) s.toks fun _ _ e => e; simpa only [PyData.shown] using this)
  | str x t => exact PySem.P.repr_of_str (by have := fin s.heap (s.toks + 1) s.toks fun _ _ e => e; simpa only [PyData.shown] using this) (by simpa only [PyData.shown] using hz)
  | list h1 h2 h3 h4 => exact repr_of_reads' (.list h1 h2 h3 h4) hs hsm hA (by omega) (fun _ _ e => e) (fun h' u tk hk => fin h' tk u hk) hz
  | tuple h1 h2 h3 h4 => exact repr_of_reads' (.tuple h1 h2 h3 h4) hs hsm hA (by omega) (fun _ _ e => e) (fun h' u tk hk => fin h' tk u hk) hz
  | dict h1 h2 h3 h4 h5 => exact repr_of_reads' (.dict h1 h2 h3 h4 h5) hs hsm hA (by omega) (fun _ _ e => e) (fun h' u tk hk => fin h' tk u hk) hz
theorem pd_reads {h : Heap} {x : V} {u : Value} (hp : isPd x = true) (r : RelV x u) : Reads h u (pd x) [] := by
  cases x with
  | non =>
    cases r
    exact .none
  | bl b =>
    cases r
    exact .bool b
  | int i =>
    obtain ⟨t, rfl⟩ := r
    exact .int i t
  | str z =>
    obtain ⟨t, rfl⟩ := r
    exact .str z t
  | _ => cases hp
theorem kV_reads {h : Heap} {k : Key} {u : Value} (e : keyIs k u = true) : Reads h u (pd (kV k)) [] := by
  rcases keyIs_shape e with ⟨i, t, rfl, rfl⟩ | ⟨x, t, rfl, rfl⟩
  · exact .int i t
  · exact .str x t
theorem dk_reads {P : Program} {w : World} {h : Heap} : ∀ {es : List DictEntry} {vs : List (Key × Value)} {kvs : List (Key × V)}, Pairs (mixKind P w) es vs → KV kvs vs → kvs.all (fun p => isPd p.2) = true →
    ReadsAll h (es.map (·.key)) ((kvs.map fun p => (pd (kV p.1), pd p.2)).map (·.1)) [] ∧ ReadsAll h (es.map (·.val)) ((kvs.map fun p => (pd (kV p.1), pd p.2)).map (·.2)) []
  | _, _, _, .nil, .nil, _ => ⟨.nil, .nil⟩
  | _, _, _, .cons hk hv hr, .cons hp r2, hf => by
    rw [List.all_cons, Bool.and_eq_true] at hf
    obtain ⟨a, b⟩ := dk_reads hr r2 hf.2
    obtain ⟨e1, e2⟩ := hp
    refine ⟨ReadsAll.cons (as := []) (bs := []) ?_ a, ReadsAll.cons (as := []) (bs := []) ?_ b⟩
    · dsimp only
      rw [e1]
      exact kV_reads hk
    · dsimp only
      rw [hv]
      exact pd_reads hf.1 e2
theorem Shw.reads {X : Cx} {pins : List (Addr × Obj)} {s : Shared} {σ : L2.St} {H : Hp} (I : Inv X pins σ H s) {x : V} {d : PyData} {u : Value} (h : Shw X.K H x d) (r : RelV x u) : ∃ as, Reads s.heap u d as ∧ (d.hasDict = true → sysModules ∉ as) := by
  cases h with
  | dp h n =>
    obtain ⟨as, q⟩ := Dp.reads I d _ u h r
    exact ⟨as, q, PyData.noDict_hsm n⟩
  | dk h f =>
    cases r
    obtain ⟨_, hS, vs, rv, o, es, ep, e1, ex, e2, _, pr, _⟩ := I.hok _ _ h
    obtain ⟨q1, q2⟩ := dk_reads (h := s.heap) pr rv f
    refine ⟨_, Reads.dict e1 ex.1 e2 q1 q2, fun _ hm => ?_⟩
    simp only [List.append_nil, List.mem_cons, List.not_mem_nil, or_false] at hm
    rw [← hm] at hS
    exact absurd hS (by simp)
theorem call_repr {X : Cx} {K : PySem.W.Frag} (hA : X.A.guards = some []) (hu : X.A.units + 64 < cLine) (h : X.K = K := by rfl) : CallR X (.builtin "repr") (rRepr K) := by
  subst h
  intro pins s σ H xs us Q I r h
  obtain ⟨x, d, rfl, hs, h1, h2, h3, q⟩ := h
  obtain ⟨u, rfl, rx⟩ := vals1 r
  obtain ⟨as, hr, hsm⟩ := hs.reads I rx
  exact call_reprD hA hu I hr hsm h1 h2 h3 q
/-! ### x == x -/
def rEqS (K : PySem.W.Frag) : R2 := fun x y H Q => x = y ∧ (scal x x = true ∨ (∃ a xs, x = .ref a ∧ (SqL K H a xs ∨ SqT K H a xs)) ∨ ∃ a kvs, x = .ref a ∧ H a = some (.dK kvs) ∧ ∀ p ∈ kvs, valV kvs p.1 = some p.2 ∧ (flatB p.2 = true ∨ ∃ b, p.2 = .ref b)) ∧ Q (.bl true) H
theorem op_eqS {X : Cx} {K : PySem.W.Frag} (hu : X.A.units + 64 < cLine) (h : X.K = K := by rfl) : OpR X (compareOp .Eq) (rEqS K) := by
  subst h
  intro pins s σ H x y v u Q I rx ry h
  obtain ⟨rfl, h, q⟩ := h
  have fin : EP X pins σ Q (.bool true) s := ⟨.bl true, H, I, rfl, q⟩
  rcases h with h | ⟨a, xs, rfl, h⟩ | ⟨a, kvs, rfl, h, hk⟩
  · exact op_eq pins s σ H x x v u Q I rx ry ⟨h, by rw [decide_eq_true rfl]; exact q⟩
  · cases rx
    cases ry
    rcases h with h | h
    · obtain ⟨its, r', pl, hz⟩ := I.list h
      exact SeqAt.eq_listAt (e := fun _ => true) pl.isList pl.isList rfl (by omega) (fun j h1 h2 => SeqAt.EqAt.same _) (by rw [List.all_eq_true.mpr (fun _ _ => rfl)]; exact fin)
    · obtain ⟨its, r', pl, hz⟩ := I.tuple h
      exact SeqAt.eq_tupleAt (e := fun _ => true) pl pl (by omega) (fun j h1 h2 => SeqAt.EqAt.same _) (by rw [List.all_eq_true.mpr (fun _ _ => rfl), beq_self_eq_true]; exact fin)
  · refine eqR_run I (A := X.A) (F := EqV X.K H 1) (by omega) (eqV_run I 1 X.A.in1 (by show X.A.units + 1 + 1 < cLine; omega)) (.inr ⟨a, a, kvs, kvs, rfl, rfl, h, h, rfl, fun p hp => ⟨_, (hk p hp).1, ?_⟩⟩) rx ry _ _ fin
    rcases (hk p hp).2 with h | ⟨b, h⟩
    · exact .inl ⟨rfl, h⟩
    · exact .inr (.inl ⟨b, h, h⟩)
theorem op_eqVK {X : Cx} {K : PySem.W.Frag} (hu : X.A.units + 64 < cLine) (h : X.K = K := by rfl) : OpR X (compareOp .Eq) (rEqV K) := by
  subst h
  exact op_eqV hu
/-! ### o[:] = ys -/
section
variable {prog : Program} {w : World} {A : Around} {E : Value → Shared → Prop} {s : Shared}
theorem bounds_all (n : Nat) : sliceBounds none none none n = ((0 : Int), (n : Int), 1) := by
  simp only [sliceBounds, Option.getD_none]
  simp
set_option maxRecDepth 100000 in
/-- o[:] = another list: turned from the rule for a slice with both bounds -/
theorem setItem_sliceAll {l b sl : Addr} {items new : Array Value} {n n2 : Nat} {vl vu : Value} {Q : Unit → Shared → Prop}
    (e : s.heap.get? l = some { cls := .type "list", data := .seq items n }) (e2 : s.heap.get? b = some { cls := .type "list", data := .seq new n2 }) (hne : l ≠ b)
    (hs : s.heap.IsSliceOf sl vl vu .none) (pl : IsPart vl none) (pu : IsPart vu none)
    (hsz : items.size + new.size ≤ sizeLine) (h : Q () { s with heap := s.heap.update l (Obj.mapSeq fun xs => xs.extract 0 0 ++ new ++ xs.extract items.size xs.size) }) :
    wpAny (model prog w) A (setItem (.ref l) (.ref sl) (.ref b)) Q E s := by
  have hl : s.heap.IsList l items := PySem.IsL.isList e
  have hb : s.heap.IsList b new := PySem.IsL.isList e2
  obtain ⟨os, hos, hcs, hds⟩ := id hs
  have hTs : s.TypeIs (.ref sl) "slice" := ⟨os, hos, hcs⟩
  have hstep : ¬ ((rawPart none == rawInt 0) = true) := Bool.false_ne_true
  have hsame : Builtin.List.listSameRef (.ref l) (.ref b) = false := by
    unfold Builtin.List.listSameRef
    exact beq_eq_false_iff_ne.mpr hne
  have hmax : (max (0 : Int) (items.size : Int)).toNat = items.size := by omega
  have hz' : ((fun xs : Array Value => xs.extract 0 0 ++ new ++ xs.extract items.size xs.size) items).size ≤ sizeLine + 1 := by
    simp only [Array.size_append, Array.size_extract]
    omega
  unfold setItem
  try with_reducible refine wpAny_holding ?_
  first | refine wpAny_bind (wpAny_pure ?_) | skip
  refine wpAny_bind (wpAny_sequenceKey hl.typeIs (by decide) ?_)
  refine wpAny_bind (wpAny_callSpecial?_slot (name := Str.ofString "__setitem__") hl.typeIs slot_list_setitem
    (wpAny_call_entry slot_list_setitem hl.typeIs entry_list_setitem ?_ (args_list_setitem _ _ _)))
  show wpAny _ _ (Builtin.List.listSubscript? (.ref sl) >>= _) _ _ s
  refine wpAny_bind ?_
  unfold Builtin.List.listSubscript?
  refine wpAny_bind (wpAny_specialOf hTs slice_no_index ?_)
  simp only [Option.isNone_none, if_true]
  refine wpAny_pure ?_
  show wpAny _ _ (typeOf (.ref sl) >>= _) _ _ s
  refine wpAny_bind (wpAny_typeOf hTs ?_)
  first
    | rw [if_neg (by decide)]
    | refine PySem.W.KFB.if_not (by decide) ?_
  rw [listSliceParts_eq]
  refine wpAny_bind (wpAny_bind (wpAny_field hos hds (x := .none) rfl (wpAny_bind (wpAny_listPart .none ?_))))
  rw [if_neg hstep]
  refine wpAny_bind (wpAny_field hos hds (x := vl) rfl (wpAny_bind (wpAny_listPart pl ?_)))
  refine wpAny_bind (wpAny_field hos hds (x := vu) rfl (wpAny_bind (wpAny_listPart pu (wpAny_pure ?_))))
  first
    | simp only [hsame, Bool.false_eq_true, if_false]
    | refine PySem.W.KFB.if_not hsame ?_
    | (dsimp only
       rw [if_neg (by rw [hsame]; exact Bool.false_ne_true)])
  refine wpAny_bind (m := Builtin.List.listAllItems (.ref b) "must assign iterable to extended slice") ?_
  unfold Builtin.List.listAllItems
  refine wpAny_bind (wpAny_typeOf hb.typeIs ?_)
  first
    | refine PySem.W.KFB.if_so (by decide) ?_
    | rw [if_pos (by decide)]
    | simp only [beq_self_eq_true, Bool.true_or, if_true]
  unfold Builtin.List.listItems
  refine wpAny_bind (wpAny_seqItems e2 rfl (wpAny_pure ?_))
  refine wpAny_bind (wpAny_bind (wpAny_seqItems e rfl (wpAny_pure ?_)))
  refine wpAny_bind (wpAny_of_eq ((sliceIndices_raw none none none items.size (by simp)).trans (congrArg (pure : Int × Int × Int → Sem (Int × Int × Int)) (bounds_all items.size))) ?_)
  show wpAny _ _ (if ((1 : Int) == 1) = true then _ else _) _ _ s
  rw [if_pos (by decide)]
  refine wpAny_bind (wpAny_rule ?_)
  first
    | simp only [notLongL hsz, Bool.false_eq_true, if_false]
    | refine PySem.W.KFB.if_not (notLongL hsz) ?_
  first | refine wpAny_bind (wpAny_pure ?_) | skip
  show wpAny _ _ (updateSeq l (fun xs => xs.extract 0 ((0 : Int)).toNat ++ new ++ xs.extract (max (0 : Int) (items.size : Int)).toNat xs.size) >>= _) _ _ s
  rw [hmax]
  refine wpAny_bind (wpAny_updateSeq (hz := Nat.le_trans (Nat.le_add_right _ _) hsz) (_hz' := hz') e rfl ?_)
  refine wpAny_bind (wpAny_letGo ?_)
  first
    | exact wpAny_bind (wpAny_pure (wpAny_pure ⟨.none, rfl, wpAny_pure h⟩))
    | exact wpAny_pure ⟨.none, rfl, wpAny_pure h⟩
end
theorem set_all {X : Cx} {pins : List (Addr × Obj)} {s : Shared} {σ : L2.St} {H : Hp} {l b sl : Addr} {xs ys : List V} {Q : Unit → Shared → Prop} (I : Inv X pins σ H s)
    (hH : H l = some (.lst xs)) (hB : H b = some (.lst ys)) (hne : l ≠ b) (hs : s.heap.IsSliceOf sl .none .none .none)
    (hz : xs.length + ys.length ≤ sizeLine) (h : ∀ s', Inv X pins σ (upd H l (.lst ys)) s' → Q () s') :
    wpAny (model X.prog X.w) X.A (setItem (.ref l) (.ref sl) (.ref b)) Q X.xe s := by
  obtain ⟨z, its, n, r, hl, e⟩ := I.lstM hH
  obtain ⟨z2, its2, n2, r2, hl2, e2⟩ := I.lstM hB
  refine setItem_sliceAll e e2 hne hs .none .none (by rw [List.size_toArray, List.size_toArray]; omega) (h _ ?_)
  refine I.lset (its' := its2) (t' := s.toks) hH e ?_ r2 z2
  have q := splice_eq its its2 0 its.length
  rw [List.take_zero, List.nil_append, List.drop_length, List.append_nil] at q
  exact q
def gSlAll (to : TE) : TG := fun v σ H Q => to σ H fun x H1 => ∃ (l b : Addr) (xs ys : List V), x = .ref l ∧ v = .ref b ∧ H1 l = some (.lst xs) ∧ H1 b = some (.lst ys) ∧ l ≠ b ∧ xs.length + ys.length ≤ sizeLine ∧ Upd H1 l (.lst ys) fun H4 => Q σ H4
theorem pg_slall {X : Cx} {o : Expr} {to : TE} {p2 pos : Pos} (ho : PE X o to)
    (ha : ∀ v, assign (.Subscript o (.Slice none none none p2) pos) X.env v = (do
      let ov ← holding [v] (eval o X.env)
      let iv ← holding [v, ov] (eval (.Slice none none none p2) X.env)
      standAt pos
      holding [v, ov, iv] (setItem ov iv v)
      release [iv, v, ov] []) := by intro _; rfl) : PG X (.Subscript o (.Slice none none none p2) pos) (gSlAll to) := by
  refine ⟨fun pins s σ H v u Q I r h => ?_⟩
  rw [ha]
  refine wpAny_bind (wpAny_holding (thn (ho.run pins s σ H _ I h) fun ov s1 ⟨x, H1, I1, r1, q1⟩ => ?_))
  refine wpAny_bind (wpAny_holding ?_)
  refine wpAny_Slice ?_
  rw [evalPart_none]
  refine wpAny_pure (wpAny_pure (wpAny_pure ?_))
  obtain ⟨l, b, xs, ys, rfl, rfl, hl3, hb3, ne, hz, q⟩ := q1
  cases r
  cases r1
  have I4 : Inv X pins σ H1 { s1 with heap := s1.heap.push { cls := .type "slice", data := .fields #[.none, .none, .none] } } := I1.kept (t' := s1.toks) fun b ob q => Heap.get?_push_of_some _ q
  refine wpAny_bind (wpAny_standAt (wpAny_bind (wpAny_holding ?_)))
  refine set_all (s := { s1 with heap := s1.heap.push { cls := .type "slice", data := .fields #[.none, .none, .none] } }) I4 hl3 hb3 ne (Heap.IsSliceOf.new ..) hz fun s5 I5 => ?_
  exact wpAny_release ⟨σ, _, I5, q⟩
/-! ### isinstance of a caught exception with fields -/
def rIsX (K : PySem.W.Frag) (a : Addr) (cls : Value) (d : Option Addr) : List V → Hp → VK → Prop := fun xs H Q => ∃ (D dd : Addr) (c : V) (cv : Value) (fs : List (Str × V)) (b : Bool), xs = [.ref a, c] ∧ cls = .ref D ∧ ExcC K D ∧ d = some dd ∧ H dd = some (.xd fs) ∧ ClsV c cv ∧ PySem.W.kitOne K (.ref D) cv = some b ∧ Q (.bl b) H
theorem inst_of {X : Cx} {pins pn : List (Addr × Obj)} {s : Shared} {σ : L2.St} {H : Hp} {a D dd : Addr} {oe : Obj} {d : Option Addr} {fs : List (Str × V)} (hz : Zc (.ref D) (some dd) oe) (hf : ∃ vs, oe.data = .fields vs) (I : Inv (X.suite a ((a, oe) :: pn)) pins σ H s) (hd : H dd = some (.xd fs)) :
    ∃ od, PySem.W.InstAt s.heap a oe D (some od) := by
  obtain ⟨ha, _⟩ := I.pin (a, oe) (List.mem_append_left _ List.mem_cons_self)
  obtain ⟨vs, hv⟩ := hf
  have hx : ObjOk X.prog X.w H s.heap dd (.xd fs) := I.hok dd _ hd
  obtain ⟨mA, hns, hr⟩ := hx
  obtain ⟨od, ho, hl⟩ := lookIn_ns hns
  exact ⟨od, ha, hz.1, by unfold PySem.W.notCls; rw [hv] <;> rfl, by rw [hz.2]; exact ho⟩
theorem call_isX {X : Cx} {K : PySem.W.Frag} {a : Addr} {oe : Obj} {cls : Value} {d : Option Addr} {pn : List (Addr × Obj)} (hz : Zc cls d oe) (hf : ∃ vs, oe.data = .fields vs) (hK : X.K = K := by rfl) : CallR (X.suite a ((a, oe) :: pn)) (.builtin "isinstance") (rIsX K a cls d) := by
  subst hK
  intro pins s σ H xs us Q I r h
  obtain ⟨D, dd, c, cv, fs, b, rfl, rfl, C, rfl, hd, k, e, q⟩ := h
  obtain ⟨u1, u2, rfl, r1, r2⟩ := vals2 r
  cases r1
  have e2 := k.eq r2
  subst e2
  obtain ⟨od, J⟩ := inst_of (d := some dd) hz hf I hd
  obtain ⟨cd, hcd, _⟩ := PySem.W.any_some C.hd
  exact PySem.W.kia_one (PySem.W.kitx_exc (by rw [hcd]; rfl) C.hg C.hk C.hs C.ha C.hn C.ht C.hm) I.kIn J e (fun z => nomatch z) fun tk => ⟨.bl b, H, I.kept (t' := tk) fun _ _ z => z, rfl, q⟩
def rIsXT (K : PySem.W.Frag) (a : Addr) (cls : Value) (d : Option Addr) : List V → Hp → VK → Prop := fun xs H Q => ∃ (D dd tp : Addr) (cs : List V) (us : List Value) (fs : List (Str × V)) (b : Bool), xs = [.ref a, .ref tp] ∧ H tp = some (.tup cs) ∧ Paired ClsV cs us ∧ cls = .ref D ∧ ExcC K D ∧ d = some dd ∧ H dd = some (.xd fs) ∧ PySem.W.kitAny K (.ref D) us = some b ∧ Q (.bl b) H
theorem call_isXT {X : Cx} {K : PySem.W.Frag} {a : Addr} {oe : Obj} {cls : Value} {d : Option Addr} {pn : List (Addr × Obj)} (hz : Zc cls d oe) (hf : ∃ vs, oe.data = .fields vs) (hK : X.K = K := by rfl) : CallR (X.suite a ((a, oe) :: pn)) (.builtin "isinstance") (rIsXT K a cls d) := by
  subst hK
  intro pins s σ H xs us Q I r h
  obtain ⟨D, dd, tp, cs, ws, fs, b, rfl, hT, k, rfl, C, rfl, hd, e, q⟩ := h
  obtain ⟨u1, u2, rfl, r1, r2⟩ := vals2 r
  cases r1
  cases (show u2 = Value.ref tp from r2)
  obtain ⟨od, J⟩ := inst_of (d := some dd) hz hf I hd
  obtain ⟨cd, hcd, _⟩ := PySem.W.any_some C.hd
  obtain ⟨_, its, rv, o, h1, h2, n, h3⟩ := (show ObjOk X.prog X.w H s.heap tp (.tup cs) from I.hok tp _ hT)
  have e3 := ClsV.all k rv
  subst e3
  obtain ⟨oc, od', dt, sl⟩ := o
  simp only at h2 h3
  subst h2 h3
  exact PySem.W.kia_tup (PySem.W.kitx_exc (by rw [hcd]; rfl) C.hg C.hk C.hs C.ha C.hn C.ht C.hm) I.kIn J h1 e (fun z => nomatch z) fun tk => ⟨.bl b, H, I.kept (t' := tk) fun _ _ z => z, rfl, q⟩
theorem pe_gcl {X : Cx} {x : Str} {a : Addr} {pos : Pos} (hg : Gl X x) (hm : X.mg x = some (.ref a)) (hd : (x == ("__debug__" : Str)) = false := by decide) : PE X (.Name x pos) (tC (.ref a)) := pe_glob (v := .ref a) hg hm rfl hd
theorem kit_yes {K : PySem.W.Frag} {t : Value} {C : Addr} (hdct : PySem.W.hasDictIn K C = true) (ht : PySem.W.typeIn K (.ref C) = some (.type "type")) (h : PySem.W.subIn K t (.ref C) = some true) : PySem.W.kitOne K t (.ref C) = some true := by
  obtain ⟨cd, hc, _⟩ := PySem.W.any_some hdct
  have e2 : ((PySem.W.clsIn K C).isSome && PySem.W.typeIn K (.ref C) == some (.type "type")) = true := by rw [hc, ht] <;> rfl
  unfold PySem.W.kitOne
  split
  · rfl
  · show (if ((PySem.W.clsIn K C).isSome && PySem.W.typeIn K (.ref C) == some (.type "type")) = true then PySem.W.subIn K t (.ref C) else none) = some true
    rw [if_pos e2]
    exact h
theorem kit_no {K : PySem.W.Frag} {t : Value} {C : Addr} (hdct : PySem.W.hasDictIn K C = true) (ht : PySem.W.typeIn K (.ref C) = some (.type "type")) (h : PySem.W.subIn K t (.ref C) = some false) (n : (t == Value.ref C) = false) : PySem.W.kitOne K t (.ref C) = some false := by
  obtain ⟨cd, hc, _⟩ := PySem.W.any_some hdct
  have e2 : ((PySem.W.clsIn K C).isSome && PySem.W.typeIn K (.ref C) == some (.type "type")) = true := by rw [hc, ht] <;> rfl
  unfold PySem.W.kitOne
  rw [if_neg (by rw [n]; exact Bool.false_ne_true)]
  show (if ((PySem.W.clsIn K C).isSome && PySem.W.typeIn K (.ref C) == some (.type "type")) = true then PySem.W.subIn K t (.ref C) else none) = some false
  rw [if_pos e2]
  exact h
theorem kit_blt {K : PySem.W.Frag} {C : Addr} {T : String} (h : PySem.W.subIn K (.ref C) (.type T) = some true) (m : PySem.W.kitMeta T = true) : PySem.W.kitOne K (.ref C) (.type T) = some true := by
  unfold PySem.W.kitOne
  split
  · rfl
  · show (if PySem.W.kitMeta T = true then PySem.W.subIn K (.ref C) (.type T) else none) = some true
    rw [if_pos m]
    exact h
end Rg

set_option Elab.async false
set_option linter.all false
set_option pp.deepTerms true
set_option pp.maxSteps 100000
set_option format.indent 1
set_option format.width 260
set_option maxRecDepth 100000
set_option maxHeartbeats 4000000
namespace K48
open PySem PySem.Spec PyProof.Rows L2 Rb Rx SX Tx Rg
def topS (i : Nat) : Stmt := PySem.Challenge.pw_roomslaid_k48_kept_touch_by_touch.main.body.getD i (.Pass ⟨0, 0, 0, 0⟩)
abbrev s_NoLine_init : Stmt := inClass (topS 2) 0
abbrev s_NoKeep_init : Stmt := inClass (topS 3) 0
abbrev s_is_whole : Stmt := topS 5
abbrev s_is_within : Stmt := topS 6
abbrev s_need_line : Stmt := topS 9
abbrev s_need_bound : Stmt := topS 10
abbrev s_Kept_init : Stmt := inClass (topS 11) 0
abbrev s_Kept_touch : Stmt := inClass (topS 11) 1
abbrev s_Kept_lines_kept : Stmt := inClass (topS 11) 2
abbrev s_law_drawn : Stmt := topS 13
abbrev s_law_whole : Stmt := topS 14
abbrev s_law_refused : Stmt := topS 15
abbrev s_law_touched : Stmt := topS 16
abbrev s_law_kept : Stmt := topS 17
abbrev s_law : Stmt := topS 18
theorem sc_NoLine_init : FnScope ["self", "found"] ["self", "found"] (defScope s_NoLine_init) := ⟨rfl, rfl, rfl, by decide +kernel, rfl, by decide +kernel, by decide +kernel⟩
theorem sc_NoKeep_init : FnScope ["self", "found"] ["self", "found"] (defScope s_NoKeep_init) := ⟨rfl, rfl, rfl, by decide +kernel, rfl, by decide +kernel, by decide +kernel⟩
theorem sc_is_whole : FnScope ["thing"] ["thing"] (defScope s_is_whole) := ⟨rfl, rfl, rfl, by decide +kernel, rfl, by decide +kernel, by decide +kernel⟩
theorem sc_is_within : FnScope ["thing", "low", "high"] ["thing", "low", "high"] (defScope s_is_within) := ⟨rfl, rfl, rfl, by decide +kernel, rfl, by decide +kernel, by decide +kernel⟩
theorem sc_need_line : FnScope ["line"] ["line"] (defScope s_need_line) := ⟨rfl, rfl, rfl, by decide +kernel, rfl, by decide +kernel, by decide +kernel⟩
theorem sc_need_bound : FnScope ["most"] ["most"] (defScope s_need_bound) := ⟨rfl, rfl, rfl, by decide +kernel, rfl, by decide +kernel, by decide +kernel⟩
theorem sc_Kept_init : FnScope ["self", "most"] ["self", "most"] (defScope s_Kept_init) := ⟨rfl, rfl, rfl, by decide +kernel, rfl, by decide +kernel, by decide +kernel⟩
theorem sc_Kept_touch : FnScope ["self", "line", "out", "fetched"] ["self", "line"] (defScope s_Kept_touch) := ⟨rfl, rfl, rfl, by decide +kernel, rfl, by decide +kernel, by decide +kernel⟩
theorem sc_Kept_lines_kept : FnScope ["self"] ["self"] (defScope s_Kept_lines_kept) := ⟨rfl, rfl, rfl, by decide +kernel, rfl, by decide +kernel, by decide +kernel⟩
theorem sc_law_drawn : FnScope ["_law_cell", "_law_sizes", "_law_found", "_law_many", "_law_one", "_law_other"] ["_law_cell", "_law_sizes"] (defScope s_law_drawn) := ⟨rfl, rfl, rfl, by decide +kernel, rfl, by decide +kernel, by decide +kernel⟩
theorem sc_law_whole : FnScope ["_law_found"] ["_law_found"] (defScope s_law_whole) := ⟨rfl, rfl, rfl, by decide +kernel, rfl, by decide +kernel, by decide +kernel⟩
theorem sc_law_refused : FnScope ["_law_store", "_law_thing", "e"] ["_law_store", "_law_thing"] (defScope s_law_refused) := ⟨rfl, rfl, rfl, by decide +kernel, rfl, by decide +kernel, by decide +kernel⟩
theorem sc_law_touched : FnScope ["_law_store", "_law_had", "_law_bound", "_law_line", "_law_out", "_law_fetched", "_law_rest", "_law_other", "_law_told"] ["_law_store", "_law_had", "_law_bound", "_law_line"] (defScope s_law_touched) := ⟨rfl, rfl, rfl, by decide +kernel, rfl, by decide +kernel, by decide +kernel⟩
theorem sc_law_kept : FnScope ["_law_store", "_law_had", "_law_told", "_law_line"] ["_law_store", "_law_had"] (defScope s_law_kept) := ⟨rfl, rfl, rfl, by decide +kernel, rfl, by decide +kernel, by decide +kernel⟩
theorem sc_law : FnScope ["_law_script", "_law_first", "_law_bounds", "_law_stores", "_law_hads", "_law_cell", "_law_draws", "_law_one", "_law_line", "_law_bad"] ["_law_script"] (defScope s_law) := ⟨rfl, rfl, rfl, by decide +kernel, rfl, by decide +kernel, by decide +kernel⟩
local macro_rules | `(tactic| walk_at "rd") => `(tactic| simp only [L2.start, rRepr, rIsX, rIsXT, gSlAll, rEqS, cxOf, tSeq, tAsg, tIfS, tTest, tB, tOp, tUn, tVar, tC, tCB, tCons, tNil, tRet, tRetN, tNext, tDrop, tBM, tBM0, tLst_n, tTup_n, tAnd, tOr, tNot, tAndV, tOrV, tNotV, tIf, tChain, tCall, gName, gTup, gCons, gNil, gUnl, gSub, rI, rI0, rU, rIxL, rIxT, rSlL_n, tSl, tPart, tNoPart, rCatR, rAppend_n, rExtend_n, rPop_n, rClear_n, rSetL_n, rInsert, rRemI_n, tMake_n, sFld_n, tFld, tMeth, rIn, tFor_n, tLc_n, iRngL1, iRngL2, iList, iTup, iRev, iZip, rDivmod, rListOf, rTupOf, rLenSeq, rMin2, rMax2, rAll, rAny, rIsi, tNever, tYes, wipe, tAug, ipI, rEq, rNe, tIsN, tNotN, tDNewK_n, tRz, tCallS, tMethX, tMakeX, tXfA, wAs, wOnly, tVeI, tOst, gSlS, iRng3, rSum, rStrI, rIsB, rNotB, rSlT, rIndex, rRep_n, rInt1, tLenSetS, scal_ii, scal_bb, scal_ss, scal_nn, scal_ni, scal_in, scal_ns, scal_sn, scal_is, scal_si, List.map_cons, List.map_nil, List.length_cons, List.length_nil, List.replicate, List.nil_append, List.cons_append, List.append_nil, List.getElem?_cons_zero, List.getElem?_cons_succ, List.set_cons_zero, List.set_cons_succ, List.set_nil, Nat.reduceAdd, Nat.reduceSub, Option.some.injEq, V.int.injEq, V.ref.injEq, V.bl.injEq, V.str.injEq, V.ty.injEq, List.cons.injEq, and_assoc, and_true, true_and, exists_eq_left, exists_eq_left', exists_and_left, exists_and_right, exists_eq, exists_eq', exists_eq_right, exists_eq_right', if_true, if_false, Bool.false_eq_true, Bool.not_true, Bool.not_false, if_pos, Int.toNat_natCast, decide_eq_true_eq, Bool.not_eq_true', decide_eq_false_iff_not, reduceCtorEq, false_and, and_false, exists_false, exists_const, rIxS, C8.rSlX, rJoinS, rSplitS, tBMS, rIndexX, iStr, tDisp, tPairs])
local macro_rules | `(tactic| walk_at "ex") => `(tactic| repeat' (first | assumption | (with_reducible refine Exists.intro _ ?_) | (with_reducible refine And.intro ?_ ?_) | rfl))

/-! ### the law's draws -/
def Drawn : List Int → List Int → Prop := Paired fun m v => 0 ≤ v ∧ v < m
theorem Drawn.snoc {m v : Int} : ∀ {ms vs : List Int}, Drawn ms vs → 0 ≤ v ∧ v < m → Drawn (ms ++ [m]) (vs ++ [v])
  | _, _, .nil, h => .cons h .nil
  | _, _, .cons r t, h => .cons r (Drawn.snoc t h)
theorem Drawn.len {ms vs : List Int} (d : Drawn ms vs) : ms.length = vs.length := Paired.length d
def spDrawn (K : PySem.W.Frag) : Sp := fun vs H Q _ => ∃ (z : Int) (b : Addr) (ms : List Int), vs = [.int z, .ref b] ∧ SqL K H b (ms.map V.int) ∧ (∀ m ∈ ms, 0 < m ∧ m < 2 ^ 200) ∧ ms.length ≤ 100 ∧
  ∀ p H1 ws, H p = none → Same H H1 → H1 p = some (.lst (ws.map V.int)) → Drawn ms ws → Q (.ref p) H1
section
variable {P : Program} {w : World} {K : PySem.W.Frag} {mg : Str → Option Value} {base : Heap}
theorem ok_drawn {f : Addr} {fd : FuncData} (F : Fun K "_law_drawn" "_law_drawn" s_law_drawn f fd) : FnOk P w K mg base CX0 1 f fd ["_law_cell", "_law_sizes"] (spDrawn K) := by
  refine F.ok sc_law_drawn (fun vs H Q E h => ?_) (fun cdv A outer s H vs Q E hr h => ?_)
  · obtain ⟨z, b, ms, rfl, _⟩ := h
    rfl
  · obtain ⟨z, b, ms, rfl, hS, hm, hl, q⟩ := h
    refine ⟨_, (pss_cons (ps_set (i := 2) sc_law_drawn.nd rfl (by first | exact Or.inl rfl | exact Or.inr rfl) (pe_lst pa_nil))
      (pss_cons (ps_if (pt_cmpR op_ge (pv 0) (pe_op op_pow pe_int pe_int) (nomark _)) (pss_cons (ps_for PassesOwn.never rfl (pi_listK (pv 1) (K := K)) (pg_name (i := 3) sc_law_drawn.nd rfl (by first | exact Or.inl rfl | exact Or.inr rfl)) (pss_cons (ps_expr (pe_bmK (K := K) PySem.F.plainAttrs_list PySem.F.slot_list_append PySem.F.type_list_append mt_append (pv 2) (pa_cons (pe_op op_modN (pv 0) (pv 3)) pa_nil)))
      (pss_one (ps_set (i := 0) sc_law_drawn.nd rfl (by first | exact Or.inl rfl | exact Or.inr rfl) (pe_op op_fdivW (pv 0) (pv 3))))))
      (pss_one (ps_ret (pv 2)))) pss_nil)
      (pss_cons (ps_set (i := 4) sc_law_drawn.nd rfl (by first | exact Or.inl rfl | exact Or.inr rfl) (pe_op op_modN (pe_op op_add (pe_op op_mul (pv 0) pe_int) pe_int) pe_int))
      (pss_cons (ps_set (i := 5) sc_law_drawn.nd rfl (by first | exact Or.inl rfl | exact Or.inr rfl) (pe_op op_modN (pe_op op_add (pe_op op_mul (pv 0) pe_int) pe_int) pe_int))
      (pss_cons (ps_set (i := 4) sc_law_drawn.nd rfl (by first | exact Or.inl rfl | exact Or.inr rfl) (pe_op op_modN (pe_op op_add (pe_op op_add (pe_op op_mulX (pv 4) (pv 4)) (pe_op op_mul pe_int (pv 4))) pe_int) pe_int))
      (pss_cons (ps_for PassesOwn.never rfl (pi_listK (pv 1) (K := K)) (pg_name (i := 3) sc_law_drawn.nd rfl (by first | exact Or.inl rfl | exact Or.inr rfl)) (pss_cons (ps_set (i := 4) sc_law_drawn.nd rfl (by first | exact Or.inl rfl | exact Or.inr rfl) (pe_op op_modN (pe_op op_add (pe_op op_add (pe_op op_mulX (pv 4) (pv 4)) (pe_op op_mul pe_int (pv 4))) pe_int) pe_int))
      (pss_cons (ps_set (i := 5) sc_law_drawn.nd rfl (by first | exact Or.inl rfl | exact Or.inr rfl) (pe_op op_modN (pe_op op_add (pe_op op_add (pe_op op_mul (pv 5) pe_int) (pe_op op_mul pe_int (pe_op op_modN (pv 4) pe_int))) pe_int) pe_int))
      (pss_one (ps_expr (pe_bmK (K := K) PySem.F.plainAttrs_list PySem.F.slot_list_append PySem.F.type_list_append mt_append (pv 2) (pa_cons (pe_op op_modN (pe_op op_add (pe_op op_mul (pv 4) pe_int) (pv 5)) (pv 3)) pa_nil)))))))
      (pss_one (ps_ret (pv 2))))))))), ?_⟩
    walk_at "rd"
    refine ⟨by decide, New.intro fun p H1 np s1 h1 => ⟨⟨by decide, by decide, by decide⟩, ite2 (fun c => ?_) (fun c => ?_)⟩⟩
    · refine ⟨⟨_, s1.seq hS⟩, Loop.list (xs := ms.map V.int) (fun i σ H2 => ∃ y x1 x2 ws, σ = [some (.int y), some (.ref b), some (.ref p), x1, x2, none] ∧ Same H H2 ∧ H2 p = some (.lst (ws.map V.int)) ∧ Drawn (ms.take i) ws) ⟨z, none, none, [], rfl, s1, h1, .nil⟩ ?_ ?_ ?_⟩
      · rintro i σ H2 _ ⟨y, x1, x2, ws, rfl, s2, _⟩
        exact s2.seq hS
      · rintro i x σ H2 hx ⟨y, x1, x2, ws, rfl, s2, h2, dr⟩
        obtain ⟨m, hmi, rfl⟩ := int_at hx
        obtain ⟨m0, m1⟩ := hm m (List.mem_of_getElem? hmi)
        have dl := dr.len
        walk_at "rd"
        refine ⟨tyv_list (seq_of h2), by omega, _, h2, small1000 (by rw [List.length_map, ← dl, List.length_take]; omega), Upd.intro fun H3 o3 h3 => ⟨wide_div (b := 200) m0 (by omega) (by decide) (by decide), Same.off s2 np o3, ws ++ [y.fmod m], ?_, ?_⟩⟩
        · rw [h3, List.map_append]
          rfl
        · rw [take_snoc hmi]
          exact dr.snoc ⟨Int.fmod_nonneg_of_pos _ m0, Int.fmod_lt_of_pos _ m0⟩
      · rintro σ H2 ⟨y, x1, x2, ws, rfl, s2, h2, dr⟩
        walk_at "rd"
        rw [List.length_map, List.take_length] at dr
        exact q p H2 ws np s2 h2 dr
    · refine ⟨.inr ⟨by decide, by decide⟩, by decide, .inr ⟨by decide, by decide⟩, by decide, ?_⟩
      have p1 := Int.fmod_nonneg_of_pos (z * 48271 + 11) (show (0 : Int) < 2147483647 by decide)
      have p2 := Int.fmod_lt_of_pos (z * 48271 + 11) (show (0 : Int) < 2147483647 by decide)
      refine ⟨mulx_ok (a := 40) (b := 40) (by omega) (by omega) (by decide), .inl ⟨by decide, by decide⟩, by decide, ⟨_, s1.seq hS⟩, ?_⟩
      refine Loop.list (xs := ms.map V.int) (fun i σ H2 => ∃ x1 u v ws, σ = [some (.int z), some (.ref b), some (.ref p), x1, some (.int u), some (.int v)] ∧ (0 ≤ u ∧ u < 2147483647) ∧ Same H H2 ∧ H2 p = some (.lst (ws.map V.int)) ∧ Drawn (ms.take i) ws)
        ⟨none, _, _, [], rfl, ⟨Int.fmod_nonneg_of_pos _ (by decide), Int.fmod_lt_of_pos _ (by decide)⟩, s1, h1, .nil⟩ ?_ ?_ ?_
      · rintro i σ H2 _ ⟨x1, u, v, ws, rfl, _, s2, _⟩
        exact s2.seq hS
      · rintro i x σ H2 hx ⟨x1, u, v, ws, rfl, ⟨u0, u1⟩, s2, h2, dr⟩
        obtain ⟨m, hmi, rfl⟩ := int_at hx
        obtain ⟨m0, m1⟩ := hm m (List.mem_of_getElem? hmi)
        have dl := dr.len
        walk_at "rd"
        refine ⟨mulx_ok (a := 40) (b := 40) (by omega) (by omega) (by decide), .inl ⟨by decide, by decide⟩, by decide, .inr ⟨by decide, by decide⟩, by decide, .inl ⟨by decide, by decide⟩, by decide, tyv_list (seq_of h2), .inr ⟨by decide, by decide⟩, by omega, _, h2,
          small1000 (by rw [List.length_map, ← dl, List.length_take]; omega), Upd.intro fun H3 o3 h3 => ⟨Int.fmod_nonneg_of_pos _ (by decide), Int.fmod_lt_of_pos _ (by decide), Same.off s2 np o3, ?_⟩⟩
        have fin : ∀ y : Int, 0 ≤ y → y < m → H3 p = some (.lst (ws.map V.int ++ [.int y])) → ∃ ws' : List Int, H3 p = some (.lst (ws'.map V.int)) ∧ Drawn (ms.take (i + 1)) ws' := fun y y0 y1 e =>
          ⟨ws ++ [y], by rw [e, List.map_append]; rfl, by rw [take_snoc hmi]; exact dr.snoc ⟨y0, y1⟩⟩
        exact fin _ (Int.fmod_nonneg_of_pos _ m0) (Int.fmod_lt_of_pos _ m0) h3
      · rintro σ H2 ⟨x1, u, v, ws, rfl, _, s2, h2, dr⟩
        walk_at "rd"
        rw [List.length_map, List.take_length] at dr
        exact q p H2 ws np s2 h2 dr
end

/-! ### words.py -/
def isIn : V → Int → Int → Bool
  | .int i, lo, hi => decide (lo ≤ i) && decide (i ≤ hi)
  | _, _, _ => false
def spIsWhole (K : PySem.W.Frag) : Sp := fun vs H Q _ => ∃ (x : V) (T : String), vs = [x] ∧ Thg K H x T ∧ Q (.bl (isWh x)) H
def spIsWithin (K : PySem.W.Frag) : Sp := fun vs H Q _ => ∃ (x : V) (T : String) (lo hi : Int), vs = [x, .int lo, .int hi] ∧ Thg K H x T ∧ Q (.bl (isIn x lo hi)) H
section
variable {P : Program} {w : World} {K : PySem.W.Frag} {mg : Str → Option Value} {base : Heap}
theorem ok_isWhole {f : Addr} {fd : FuncData} (F : Fun K "is_whole" "is_whole" s_is_whole f fd) (z_isinstance : mg "isinstance" = none) (z_int : mg "int" = none) (z_bool : mg "bool" = none) : FnOk P w K mg base CX0 1 f fd ["thing"] (spIsWhole K) := by
  refine F.ok sc_is_whole (fun vs H Q E h => ?_) (fun cdv A outer s H vs Q E hr h => ?_)
  · obtain ⟨x, T, rfl, _⟩ := h
    rfl
  · obtain ⟨x, T, rfl, t, q⟩ := h
    refine ⟨_, (pss_one (ps_ret (pe_and (pe_callB (call_isiK' (K := K)) (by rfl) z_isinstance (by decide +kernel) (pa_cons (pv 0) (pa_cons (pe_bltn (v := V.ty "int") (u := Value.type "int") (by rfl) z_int (by decide +kernel) rfl) pa_nil))) (pe_one (pe_not (pe_callB (call_isiK' (K := K)) (by rfl) z_isinstance (by decide +kernel) (pa_cons (pv 0) (pa_cons (pe_bltn (v := V.ty "bool") (u := Value.type "bool") (by rfl) z_bool (by decide +kernel) rfl) pa_nil)))))))), ?_⟩
    walk_at "rd"
    have e := isWh_of t
    refine isiT t (by decide) (ite2 (fun c => isiT t (by decide) ?_) (fun c => ?_))
    · rw [c, Bool.true_and] at e
      rw [e]
      exact q
    · rw [Bool.eq_false_iff.mpr c, Bool.false_and] at e
      rw [e]
      exact q
theorem ok_isWithin {f : Addr} {fd : FuncData} (F : Fun K "is_within" "is_within" s_is_within f fd) (D_is_whole : Dn P w K mg base CX0 1 "is_whole" ["thing"] (spIsWhole K)) : FnOk P w K mg base CX0 2 f fd ["thing", "low", "high"] (spIsWithin K) := by
  refine F.ok sc_is_within (fun vs H Q E h => ?_) (fun cdv A outer s H vs Q E hr h => ?_)
  · obtain ⟨x, T, lo, hi, rfl, _⟩ := h
    rfl
  · obtain ⟨x, T, lo, hi, rfl, t, q⟩ := h
    refine ⟨_, (pss_one (ps_ret (pe_and (pe_cd D_is_whole (hr.mono (by decide)) (by rfl) pass0 (pa_cons (pv 0) pa_nil)) (pe_one (pe_chain op_le op_le (pv 1) (pv 0) (pv 2)))))), ?_⟩
    walk_at "rd"
    refine ⟨x, T, rfl, t, _, rfl, ?_⟩
    cases x with
    | int i =>
      have e : isIn (.int i) lo hi = (decide (lo ≤ i) && decide (i ≤ hi)) := rfl
      rw [e] at q
      refine iteT ⟨i, rfl, ite2 (fun c => ⟨i, rfl, ?_⟩) (fun c => ?_)⟩
      · rw [decide_eq_true c, Bool.true_and] at q
        exact q
      · rw [decide_eq_false c, Bool.false_and] at q
        exact q
    | _ => exact iteF q
end

/-! ### the mathematics: lines kept by last use -/
def dd : List Int → List Int
  | [] => []
  | x :: r => x :: (dd r).filter fun y => decide (y ≠ x)
theorem mem_dd {x : Int} : ∀ {ys : List Int}, x ∈ dd ys ↔ x ∈ ys
  | [] => Iff.rfl
  | y :: r => by
    show x ∈ y :: (dd r).filter _ ↔ _
    rw [List.mem_cons, List.mem_cons, List.mem_filter, mem_dd (ys := r), decide_eq_true_eq]
    by_cases h : x = y
    · simp [h]
    · simp [h]
theorem nd_dd : ∀ ys : List Int, (dd ys).Nodup
  | [] => List.nodup_nil
  | y :: r => by
    show (y :: (dd r).filter _).Nodup
    rw [List.nodup_cons]
    refine ⟨fun h => ?_, (nd_dd r).filter _⟩
    rw [List.mem_filter, decide_eq_true_eq] at h
    exact h.2 rfl
theorem dd_snoc (y : Int) : ∀ ys : List Int, dd (ys ++ [y]) = if y ∈ ys then dd ys else dd ys ++ [y]
  | [] => rfl
  | x :: r => by
    show x :: (dd (r ++ [y])).filter _ = _
    rw [dd_snoc y r]
    by_cases h : y ∈ r
    · rw [if_pos h, if_pos (List.mem_cons_of_mem _ h)]
      rfl
    · rw [if_neg h, List.filter_append]
      by_cases e : y = x
      · subst e
        rw [if_pos List.mem_cons_self]
        simp [dd]
      · rw [if_neg (by simp [h, e])]
        simp [dd, e]
theorem dd_pre (ys : List Int) : ∀ zs : List Int, ∃ W, dd (ys ++ zs) = dd ys ++ W := fun zs => by
  refine snocI (P := fun zs => ∃ W, dd (ys ++ zs) = dd ys ++ W) ⟨[], by simp⟩ (fun zs z ih => ?_) zs
  obtain ⟨W, e⟩ := ih
  rw [← List.append_assoc, dd_snoc, e]
  split
  · exact ⟨W, rfl⟩
  · exact ⟨W ++ [z], by rw [List.append_assoc]⟩
def touchL (B : Nat) (L : List Int) (n : Int) : List Int := n :: (if n ∈ L then L.erase n else if L.length = B then L.dropLast else L)
def outL (B : Nat) (L : List Int) (n : Int) : V := if n ∈ L then .non else if L.length = B then (match L.getLast? with | some z => .int z | none => .non) else .non
def rowL (B : Nat) (L : List Int) (n : Int) : List V := [.int n, .bl (!decide (n ∈ L)), outL B L n]
theorem filter_out {n : Int} {L : List Int} (h : n ∉ L) : L.filter (fun y => decide (y ≠ n)) = L := List.filter_eq_self.mpr fun y hy => decide_eq_true fun e => h (e ▸ hy)
theorem erase_take {n : Int} : ∀ {D : List Int} {B : Nat}, D.Nodup → n ∈ D.take B → (D.take B).erase n = (D.filter fun y => decide (y ≠ n)).take (B - 1)
  | [], B, _, h => by simp at h
  | x :: r, 0, _, h => by simp at h
  | x :: r, b + 1, nd, h => by
    have nx := (List.nodup_cons.mp nd).1
    by_cases e : x = n
    · subst e
      show ((x :: r.take b).erase x) = _
      rw [List.erase_cons_head, List.filter_cons_of_neg (by simp), filter_out nx]
      rfl
    · have h' : n ∈ r.take b := by
        rw [List.take_succ_cons, List.mem_cons] at h
        exact h.resolve_left fun z => e z.symm
      have ih := erase_take (List.nodup_cons.mp nd).2 h'
      rw [List.take_succ_cons, List.erase_cons_tail (by simpa using e), ih, List.filter_cons_of_pos (by simpa using e)]
      cases b with
      | zero => simp at h'
      | succ b => rfl
theorem touch_dd {B : Nat} (hB : 1 ≤ B) (ys : List Int) (n : Int) : touchL B ((dd ys).take B) n = (dd (n :: ys)).take B := by
  obtain ⟨b, rfl⟩ : ∃ b, B = b + 1 := ⟨B - 1, by omega⟩
  show n :: _ = (n :: (dd ys).filter _).take (b + 1)
  rw [List.take_succ_cons]
  congr 1
  by_cases h : n ∈ (dd ys).take (b + 1)
  · rw [if_pos h, erase_take (nd_dd ys) h]
    rfl
  · rw [if_neg h]
    have key : ((dd ys).filter fun y => decide (y ≠ n)).take b = (dd ys).take b := by
      conv => lhs; rw [← List.take_append_drop (b + 1) (dd ys)]
      rw [List.filter_append, filter_out h, List.take_append, List.take_take]
      by_cases hl : (dd ys).length ≤ b
      · have e1 : (dd ys).drop (b + 1) = [] := List.drop_eq_nil_of_le (by omega)
        rw [e1]
        simp
      · have e2 : b - ((dd ys).take (b + 1)).length = 0 := by
          rw [List.length_take]
          omega
        rw [e2, List.take_zero, List.append_nil, Nat.min_eq_left (by omega)]
    rw [key]
    by_cases hl : ((dd ys).take (b + 1)).length = b + 1
    · rw [if_pos hl, List.dropLast_eq_take, hl, List.take_take]
      congr 1
      omega
    · rw [if_neg hl]
      rw [List.length_take] at hl
      rw [List.take_of_length_le (by omega), List.take_of_length_le (by omega)]
/-- what is kept, and the rows, behind some touches -/
def stepK (B : Nat) (s : List Int × List (List V)) (n : Int) : List Int × List (List V) := (touchL B s.1 n, s.2 ++ [rowL B s.1 n])
def runK (B : Nat) (xs : List Int) : List Int × List (List V) := xs.foldl (stepK B) ([], [])
theorem runK_snoc (B : Nat) (xs : List Int) (n : Int) : runK B (xs ++ [n]) = stepK B (runK B xs) n := by
  unfold runK
  rw [List.foldl_append]
  rfl
def lastL (B : Nat) (xs : List Int) : List Int := (dd xs.reverse).take B
theorem runK_last {B : Nat} (hB : 1 ≤ B) (xs : List Int) : (runK B xs).1 = lastL B xs := by
  refine snocI (P := fun xs => (runK B xs).1 = lastL B xs) (by simp [runK, lastL, dd]) (fun xs n ih => ?_) xs
  rw [runK_snoc]
  show touchL B (runK B xs).1 n = _
  rw [ih]
  unfold lastL
  rw [touch_dd hB, List.reverse_append]
  rfl
theorem runK_rows_len (B : Nat) (xs : List Int) : (runK B xs).2.length = xs.length := by
  refine snocI (P := fun xs => (runK B xs).2.length = xs.length) rfl (fun xs n ih => ?_) xs
  rw [runK_snoc]
  show ((runK B xs).2 ++ [_]).length = _
  rw [List.length_append, List.length_append, ih]
  rfl
theorem lastL_len (B : Nat) (xs : List Int) : (lastL B xs).length ≤ B := by
  unfold lastL
  rw [List.length_take]
  exact Nat.min_le_left _ _

/-! ### refusals with one field -/
/-- the field found alone -/
def FoundAt (H : Hp) (d : Addr) (x : V) : Prop := H d = some (.xd [("found", x)])
/-- C of x is raised -/
def Refuses (C : Addr) (H : Hp) (x : V) (E : XK) : Prop := ∀ d H1, H d = none → Same H H1 → FoundAt H1 d x → E (.ref C) (some d) H1

section
variable {P : Program} {w : World} {K : PySem.W.Frag} {mg : Str → Option Value} {base : Heap}
theorem ok_NoLine {f C_NoLine C_RoomError : Addr} {fd : FuncData} (F : Fun K "__init__" "NoLine.__init__" s_NoLine_init f fd) (O_NoLine : OexC K C_NoLine) (G_RoomError : mg "RoomError" = some (.ref C_RoomError)) (R_RoomError : ClX.CRead K C_RoomError (.type "type")) (V_RoomError : PySem.W.findCls K (.ref C_RoomError) (.type "type") "__init__" = some (.val (.builtin "ValueError.__init__"))) (B_NoLine_found : PySem.W.findIn K (.ref C_NoLine) "found" = some none) : FnOk P w K mg base CX0 1 f fd ["self", "found"] (spX C_NoLine ["found"]) := by
  refine F.ok sc_NoLine_init (fun vs H Q E h => ?_) (fun cdv A outer s H vs Q E hr h => ?_)
  · obtain ⟨a, ys, rfl, hl, _⟩ := h
    match ys, hl with
    | [y], _ => rfl
  · obtain ⟨a, ys, rfl, hl, ha, q⟩ := h
    obtain ⟨y, rfl⟩ : ∃ y, ys = [y] := by
      match ys, hl with
      | [y], _ => exact ⟨y, rfl⟩
    refine ⟨_, (pss_cons (ps_expr (pe_roinit (by rfl) G_RoomError R_RoomError V_RoomError (pa_cons (pv 0) (pa_cons pe_str pa_nil)) (K := K)))
      (pss_one (ps_ostK (pv 0) (pv 1) (K := K)))), ?_⟩
    walk_at "rd"
    exact ⟨by decide, _, O_NoLine, ha, _, O_NoLine, B_NoLine_found, .inl ⟨ha, fun dx nd nda => q dx _ nd nda upd_same (by rw [upd_ne nda]; exact upd_same) (fun b h1 h2 => by rw [upd_ne h1, upd_ne h2])⟩⟩
end

/-! ### kept.py -/
def KeptAt (C : Addr) (H : Hp) (p d : Addr) (B : Nat) (L : List Int) : Prop := (∃ dx, H p = some (.ins C dx [("bound", .int (B : Int)), ("had", .ref d)])) ∧ H d = some (.lst (L.map V.int))
theorem KeptAt.same {C : Addr} {H H' : Hp} {p d : Addr} {B : Nat} {L : List Int} (k : KeptAt C H p d B L) (s : Same H H') : KeptAt C H' p d B L := let ⟨⟨dx, h⟩, g⟩ := k; ⟨⟨dx, s _ _ h⟩, s _ _ g⟩
theorem nbh : (("bound" : Str) == "had") = false := by decide +kernel
theorem nhb : (("had" : Str) == "bound") = false := by decide +kernel
theorem nbh' : ¬ (("bound" : Str) = "had") := by decide +kernel
theorem nf_bound {x y : V} : List.lookup (Str.ofString "bound") ([(Str.ofString "bound", x), (Str.ofString "had", y)] : List (Str × V)) = some x := lk0
theorem nf_had {x y : V} : List.lookup (Str.ofString "had") ([(Str.ofString "bound", x), (Str.ofString "had", y)] : List (Str × V)) = some y := lk1 nhb lk0
theorem nf_touch {x y : V} : List.lookup (Str.ofString "touch") ([(Str.ofString "bound", x), (Str.ofString "had", y)] : List (Str × V)) = none := lk1 (by decide +kernel) (lk1 (by decide +kernel) rfl)
theorem nf_kept {x y : V} : List.lookup (Str.ofString "lines_kept") ([(Str.ofString "bound", x), (Str.ofString "had", y)] : List (Str × V)) = none := lk1 (by decide +kernel) (lk1 (by decide +kernel) rfl)
theorem nf_put {x y : V} : putF "had" y [("bound", x)] = ([("bound", x), ("had", y)] : List (Str × V)) := putF1 nbh'
def lineOk : V → Bool
  | .int n => decide (0 ≤ n)
  | _ => false
theorem lineOk_int {x : V} (h : lineOk x = true) : ∃ n : Int, x = .int n ∧ 0 ≤ n := by
  cases x with
  | int n => exact ⟨n, rfl, of_decide_eq_true h⟩
  | _ => cases h
def spNeedLine (K : PySem.W.Frag) (CL : Addr) : Sp := fun vs H Q E => ∃ (x : V) (T : String), vs = [x] ∧ Th K H x T ∧ (lineOk x = true → Q .non H) ∧ (lineOk x = false → Refuses CL H x E)
def spNeedBound : Sp := fun vs H Q _ => ∃ (B : Nat), vs = [.int (B : Int)] ∧ 1 ≤ B ∧ B ≤ 32 ∧ Q .non H
def spKInit (C : Addr) : Sp := fun vs H Q _ => ∃ (p dx : Addr) (B : Nat), vs = [.ref p, .int (B : Int)] ∧ H p = some (.ins C dx []) ∧ 1 ≤ B ∧ B ≤ 32 ∧ ∀ d H1, Off p H H1 → H d = none → KeptAt C H1 p d B [] → Q .non H1
def spTouch (K : PySem.W.Frag) (C CL : Addr) : Sp := fun vs H Q E => ∃ (p d : Addr) (B : Nat) (L : List Int) (x : V), vs = [.ref p, x] ∧ KeptAt C H p d B L ∧ L.length ≤ B ∧ B ≤ 32 ∧ 1 ≤ B ∧
  ((∃ n : Int, x = .int n ∧ 0 ≤ n ∧ ∀ t H1, H t = none → Off d H H1 → KeptAt C H1 p d B (touchL B L n) → H1 t = some (.tup [.bl (!decide (n ∈ L)), outL B L n]) → Q (.ref t) H1) ∨ (∃ T, Th K H x T ∧ lineOk x = false ∧ Refuses CL H x E))
section
variable {P : Program} {w : World} {K : PySem.W.Frag} {mg : Str → Option Value} {base : Heap}
theorem ok_needLine {f C_NoLine : Addr} {fd : FuncData} (F : Fun K "need_line" "need_line" s_need_line f fd) (D_is_whole : Dn P w K mg base CX0 1 "is_whole" ["thing"] (spIsWhole K)) (X_NoLine : Xn P w K mg base 1 C_NoLine "NoLine" ["self", "found"] (spX C_NoLine ["found"])) : FnOk P w K mg base (L2.CX P w) 3 f fd ["line"] (spNeedLine K C_NoLine) := by
  refine F.okX sc_need_line (fun vs H Q E h => ?_) (fun cdv A outer s H vs Q E hr h => ?_)
  · obtain ⟨x, T, rfl, _⟩ := h
    rfl
  · obtain ⟨x, T, rfl, t, q1, q2⟩ := h
    refine ⟨_, (pss_one (ps_if (PW.pt (pw_or (pt_not (pt_val (pe_cd D_is_whole (hr.mono (by decide)) (by rfl) pass0 (pa_cons (pv 0) pa_nil)))) (pw_or1 (pt_cmpR op_lt (pv 0) pe_int (nomark _))))) (pss_one (ps_rz X_NoLine rfl (takes_of rfl rfl rfl rfl) (hr.mono (by decide)) (by rfl) pass0 (pa_cons (pv 0) pa_nil))) pss_nil)), ?_⟩
    walk_at "rd"
    refine ⟨x, T, rfl, t.thg, _, rfl, ite2 (fun c => ?_) (fun c => ?_)⟩
    · exact q2 (by cases x <;> first | rfl | cases c)
    · obtain ⟨n, rfl⟩ : ∃ n, x = .int n := by
        cases x with
        | int n => exact ⟨n, rfl⟩
        | _ => exact absurd rfl c
      refine ⟨n, rfl, ite2 (fun g => q2 (decide_eq_false (show ¬ 0 ≤ n by omega))) (fun g => q1 (decide_eq_true (show 0 ≤ n by omega)))⟩
theorem ok_needBound {f : Addr} {fd : FuncData} (F : Fun K "need_bound" "need_bound" s_need_bound f fd) (c_MOST_KEPT : ∃ t, mg "MOST_KEPT" = some (.int 32 t)) (D_is_within : Dn P w K mg base CX0 2 "is_within" ["thing", "low", "high"] (spIsWithin K)) : FnOk P w K mg base CX0 3 f fd ["most"] spNeedBound := by
  refine F.ok sc_need_bound (fun vs H Q E h => ?_) (fun cdv A outer s H vs Q E hr h => ?_)
  · obtain ⟨n, rfl, _⟩ := h
    rfl
  · obtain ⟨B, rfl, h0, h1, q⟩ := h
    refine ⟨_, (pss_one (ps_if (pt_not (pt_val (pe_cd D_is_within (hr.mono (by decide)) (by rfl) pass0 (pa_cons (pv 0) (pa_cons pe_int (pa_cons (pe_gi (by rfl) c_MOST_KEPT) pa_nil)))))) (pss_one ps_never) pss_nil)), ?_⟩
    walk_at "rd"
    refine ⟨_, _, _, _, rfl, thg_int, _, rfl, iteN ?_ q⟩
    show ¬ (decide ((1 : Int) ≤ B) && decide ((B : Int) ≤ 32)) = false
    rw [decide_eq_true (by omega), decide_eq_true (by omega)]
    decide
theorem ok_kInit {f C_Kept : Addr} {fd : FuncData} (F : Fun K "__init__" "Kept.__init__" s_Kept_init f fd) (K_Kept : Cls K C_Kept) (A_Kept_bound : NoAttr K C_Kept "bound") (A_Kept_had : NoAttr K C_Kept "had") (D_need_bound : Dn P w K mg base CX0 3 "need_bound" ["most"] spNeedBound) : FnOk P w K mg base CX0 4 f fd ["self", "most"] (spKInit C_Kept) := by
  refine F.ok sc_Kept_init (fun vs H Q E h => ?_) (fun cdv A outer s H vs Q E hr h => ?_)
  · obtain ⟨p, dx, B, rfl, _⟩ := h
    rfl
  · obtain ⟨p, dx, B, rfl, hp, h0, h1, q⟩ := h
    refine ⟨_, (pss_cons (ps_expr (pe_cd D_need_bound (hr.mono (by decide)) (by rfl) pass0 (pa_cons (pv 1) pa_nil)))
      (pss_cons (ps_fldK (pv 0) (pv 1) rfl (K := K))
      (pss_one (ps_fldK (pv 0) (pe_lst pa_nil) rfl (K := K))))), ?_⟩
    walk_at "rd"
    refine ⟨B, rfl, h0, h1, _, _, _, hp, K_Kept, A_Kept_bound, by show 0 < 1000; decide, Upd.intro fun H1 o1 hp1 => ⟨by decide, New.intro fun d H2 nd s2 h2 => ?_⟩⟩
    refine ⟨_, _, _, s2 _ _ hp1, K_Kept, A_Kept_had, by show 1 < 1000; decide, Upd.intro fun H3 o3 hp3 => ?_⟩
    have e : putF "had" (.ref d) (putF "bound" (.int (B : Int)) []) = ([("bound", .int (B : Int)), ("had", .ref d)] : List (Str × V)) := nf_put
    rw [e] at hp3
    have ndp : d ≠ p := fun e => by
      subst e
      rw [hp1] at nd
      cases nd
    exact q d H3 (o1.trans ((Off.of s2).trans o3)) (o1.none hp nd ⟨_, hp1⟩) ⟨⟨_, hp3⟩, o3 _ _ ndp h2⟩
theorem ok_touch {f C_Kept C_NoLine : Addr} {fd : FuncData} (F : Fun K "touch" "Kept.touch" s_Kept_touch f fd) (z_len : mg "len" = none) (K_Kept : Cls K C_Kept) (A_Kept_bound : NoAttr K C_Kept "bound") (A_Kept_had : NoAttr K C_Kept "had") (D_need_line : Dn P w K mg base (L2.CX P w) 3 "need_line" ["line"] (spNeedLine K C_NoLine)) : FnOk P w K mg base (L2.CX P w) 4 f fd ["self", "line"] (spTouch K C_Kept C_NoLine) := by
  refine F.okX sc_Kept_touch (fun vs H Q E h => ?_) (fun cdv A outer s H vs Q E hr h => ?_)
  · obtain ⟨p, d, B, L, x, rfl, _⟩ := h
    rfl
  · obtain ⟨p, d, B, L, x, rfl, ⟨⟨dx, hp⟩, hd⟩, hl, hB, hB1, q⟩ := h
    refine ⟨_, (pss_cons (ps_expr (pe_cdS D_need_line (hr.mono (by decide)) (by rfl) (fun σ => passAt (takes_of rfl rfl rfl rfl) σ) (pa_cons (pv 1) pa_nil)))
      (pss_cons (ps_set (i := 2) sc_Kept_touch.nd rfl (by first | exact Or.inl rfl | exact Or.inr rfl) pe_non)
      (pss_cons (ps_set (i := 3) sc_Kept_touch.nd rfl (by first | exact Or.inl rfl | exact Or.inr rfl) (pe_cmpR (op_notIn_seqK (K := K)) (pv 1) (pe_fldK (pv 0) rfl (K := K)) (by rfl)))
      (pss_cons (ps_if (pt_not (pt_val (pv 3))) (pss_one (ps_expr (pe_bmK (K := K) PySem.F.plainAttrs_list PySem.F.slot_list_remove PySem.F.type_list_remove mt_remove (pe_fldK (pv 0) rfl (K := K)) (pa_cons (pv 1) pa_nil)))) (pss_one (ps_if (pt_cmpR op_eq (pe_callB (call_lenR (K := K)) (by rfl) z_len (by decide +kernel) (pa_cons (pe_fldK (pv 0) rfl (K := K)) pa_nil)) (pe_fldK (pv 0) rfl (K := K)) (nomark _)) (pss_one (ps_set (i := 2) sc_Kept_touch.nd rfl (by first | exact Or.inl rfl | exact Or.inr rfl) (pe_bm0K (K := K) PySem.F.plainAttrs_list PySem.F.slot_list_pop PySem.F.type_list_pop mt_pop (pe_fldK (pv 0) rfl (K := K))))) pss_nil)))
      (pss_cons (ps_expr (pe_bmK (K := K) PySem.F.plainAttrs_list PySem.F.slot_list_insert PySem.F.type_list_insert mt_insertR (pe_fldK (pv 0) rfl (K := K)) (pa_cons pe_int (pa_cons (pv 1) pa_nil))))
      (pss_one (ps_ret (pe_tup (pa_cons (pv 3) (pa_cons (pv 2) pa_nil)))))))))), ?_⟩
    walk_at "rd"
    have ndp : p ≠ d := ne_of hp hd (by intro z; cases z)
    rcases q with ⟨n, rfl, h0, q⟩ | ⟨T, t, eb, q⟩
    case inr => exact ⟨x, T, rfl, t, fun h => absurd (eb.symm.trans h) (by decide), fun _ => q⟩
    -- had.insert(0, line); return (fetched, out)
    have tail : ∀ (H1 : Hp) (M : List Int) (b : Bool) (o : V), Off d H H1 → H1 d = some (.lst (M.map V.int)) → n :: M = touchL B L n → b = !decide (n ∈ L) → o = outL B L n → M.length ≤ 40 →
        ∃ x x_1 x_2, H1 p = some (HO.ins x x_1 x_2) ∧ Cls K x ∧ NoAttr K x "had" ∧ ∃ x, List.lookup (Str.ofString "had") x_2 = some x ∧ tyV K "list" x H1 ∧ ∃ l, x = V.ref l ∧ ∃ x, H1 l = some (HO.lst x) ∧ x.length < sizeLine ∧ (0 : Int) ≤ 0 ∧ (0 : Int) < 2 ^ 63 ∧
          Upd H1 l (HO.lst (List.take (Int.toNat 0) x ++ [V.int n] ++ List.drop (Int.toNat 0) x)) fun H2 => 2 ≤ sizeLine ∧ New H2 (HO.tup [V.bl b, o]) fun p H2 => Q (V.ref p) H2 := fun H1 M b o o1 h1 eM eb eo hM => by
      refine ⟨_, _, _, o1 _ _ ndp hp, K_Kept, A_Kept_had, _, nf_had, tyv_list (seq_of h1), d, rfl, _, h1, sz100l (by rw [List.length_map]; omega), by decide, by decide, Upd.intro fun H2 o2 h2 => ⟨by decide, New.intro fun t H3 nt s3 h3 => ?_⟩⟩
      have o12 : Off d H H2 := o1.trans o2
      have e2 : List.take (Int.toNat 0) (M.map V.int) ++ [V.int n] ++ List.drop (Int.toNat 0) (M.map V.int) = (n :: M).map V.int := rfl
      rw [e2, eM] at h2
      rw [eb, eo] at h3
      refine q t H3 (o12.none hd nt ⟨_, h2⟩) (o12.trans (Off.of s3)) ⟨⟨dx, s3 _ _ (o12 _ _ ndp hp)⟩, s3 _ _ h2⟩ h3
    refine ⟨_, "int", rfl, .int n, fun _ => ?_, fun h => absurd ((decide_eq_true h0).symm.trans h) (by decide)⟩
    refine ⟨_, _, _, hp, K_Kept, A_Kept_had, _, nf_had, d, rfl, _, .inl (seq_of hd), rfl, flat_ints L, ?_⟩
    rw [inV_int]
    by_cases hm : n ∈ L
    · have hx := List.idxOf_lt_length_of_mem hm
      rw [decide_eq_true hm]
      refine iteP rfl ⟨_, _, _, hp, K_Kept, A_Kept_had, _, nf_had, tyv_list (seq_of hd), d, rfl, L, n, rfl, hd, L.idxOf n, ?_, ?_, Upd.intro fun H1 o1 h1 => ?_⟩
      · rw [List.getElem?_eq_getElem hx, List.getElem_idxOf]
      · intro m hmx e
        have := List.getElem?_eq_some_iff.mp e
        obtain ⟨h1, h2⟩ := this
        have h3 : L.idxOf n ≤ m := by
          have := List.not_of_lt_findIdx (p := (· == n)) (xs := L) (i := m) hmx
          simp [h2] at this
        omega
      · rw [← List.erase_eq_eraseIdx_of_idxOf rfl] at h1
        refine tail H1 (L.erase n) _ _ o1 h1 ?_ (by rw [decide_eq_true hm]) ?_ ?_
        · unfold touchL
          rw [if_pos hm]
        · unfold outL
          rw [if_pos hm]
        · have := List.length_erase_le (a := n) (l := L)
          omega
    · rw [decide_eq_false hm]
      refine iteN (by decide) ⟨_, _, _, hp, K_Kept, A_Kept_had, _, nf_had, d, rfl, _, .inl (seq_of hd), _, _, _, hp, K_Kept, A_Kept_bound, _, nf_bound, rfl, ite2 (fun e => ?_) (fun e => ?_)⟩
      · have eB : L.length = B := by
          have := V.int.inj e
          rw [List.length_map] at this
          omega
        have hz : L[L.length - 1]? = some L[L.length - 1] := List.getElem?_eq_getElem (by omega)
        have hz2 : (L.map V.int)[(L.map V.int).length - 1]? = some (.int L[L.length - 1]) := by
          rw [List.length_map]
          exact at_int hz
        refine ⟨_, _, _, hp, K_Kept, A_Kept_had, _, nf_had, tyv_list (seq_of hd), d, rfl, _, hd, _, hz2, Upd.intro fun H1 o1 h1 => ?_⟩
        rw [← List.map_dropLast] at h1
        refine tail H1 L.dropLast _ _ o1 h1 ?_ (by rw [decide_eq_false hm]) ?_ (by rw [List.length_dropLast]; omega)
        · unfold touchL
          rw [if_neg hm, if_pos eB]
        · unfold outL
          rw [if_neg hm, if_pos eB, List.getLast?_eq_getElem?, hz]
      · have ne : ¬ L.length = B := fun h => e (by rw [List.length_map, h])
        refine tail H L _ _ (Off.refl H) hd ?_ (by rw [decide_eq_false hm]) ?_ (by omega)
        · unfold touchL
          rw [if_neg hm, if_neg ne]
        · unfold outL
          rw [if_neg hm, if_neg ne]
end

section
variable {P : Program} {w : World} {K : PySem.W.Frag} {mg : Str → Option Value} {base : Heap}
def spLWhole (K : PySem.W.Frag) : Sp := fun vs H Q _ => ∃ (x : V) (T : String), vs = [x] ∧ Thg K H x T ∧ Q (.bl (isWh x)) H
theorem ok_lwhole {f : Addr} {fd : FuncData} (F : Fun K "_law_whole" "_law_whole" s_law_whole f fd) (z_isinstance : mg "isinstance" = none) (z_int : mg "int" = none) (z_bool : mg "bool" = none) : FnOk P w K mg base CX0 1 f fd ["_law_found"] (spLWhole K) := by
  refine F.ok sc_law_whole (fun vs H Q E h => ?_) (fun cdv A outer s H vs Q E hr h => ?_)
  · obtain ⟨x, T, rfl, _⟩ := h
    rfl
  · obtain ⟨x, T, rfl, t, q⟩ := h
    refine ⟨_, (pss_one (ps_ret (pe_and (pe_callB (call_isiK' (K := K)) (by rfl) z_isinstance (by decide +kernel) (pa_cons (pv 0) (pa_cons (pe_bltn (v := V.ty "int") (u := Value.type "int") (by rfl) z_int (by decide +kernel) rfl) pa_nil))) (pe_one (pe_not (pe_callB (call_isiK' (K := K)) (by rfl) z_isinstance (by decide +kernel) (pa_cons (pv 0) (pa_cons (pe_bltn (v := V.ty "bool") (u := Value.type "bool") (by rfl) z_bool (by decide +kernel) rfl) pa_nil)))))))), ?_⟩
    walk_at "rd"
    have e := isWh_of t
    refine isiT t (by decide) (ite2 (fun c => isiT t (by decide) ?_) (fun c => ?_))
    · rw [c, Bool.true_and] at e
      rw [e]
      exact q
    · rw [Bool.eq_false_iff.mpr c, Bool.false_and] at e
      rw [e]
      exact q
end

/-! ### the law -/
theorem Drawn.at {ms ws : List Int} (d : Drawn ms ws) : ∀ {j : Nat} {m : Int}, ms[j]? = some m → ∃ v, ws[j]? = some v ∧ 0 ≤ v ∧ v < m := by
  induction d with
  | nil => intro j m h; simp at h
  | @cons a b l1 l2 h _ ih =>
    intro j m e
    cases j with
    | zero =>
      rw [List.getElem?_cons_zero] at e
      cases e
      exact ⟨b, rfl, h⟩
    | succ j =>
      rw [List.getElem?_cons_succ] at e
      obtain ⟨v, h1, h2⟩ := ih e
      exact ⟨v, by rw [List.getElem?_cons_succ]; exact h1, h2⟩
theorem Drawn.pick {ms ws : List Int} (d : Drawn ms ws) {k : Int} {m : Int} (h0 : 0 ≤ k) (h : ms[k.toNat]? = some m) : ∃ v, atI (ws.map V.int) k = some (.int v) ∧ 0 ≤ v ∧ v < m := by
  obtain ⟨v, h1, h2⟩ := d.at h
  refine ⟨v, at_of (j := k.toNat) (by omega) ?_, h2⟩
  rw [List.getElem?_map, h1]
  rfl
structure St2 (C : Addr) (H : Hp) (p0 d0 h0 p1 d1 h1 : Addr) (B0 B1 : Nat) (L0 L1 : List Int) : Prop where
  k0 : KeptAt C H p0 d0 B0 L0
  k1 : KeptAt C H p1 d1 B1 L1
  e0 : H h0 = some (.lst (L0.map V.int))
  e1 : H h1 = some (.lst (L1.map V.int))
  l0 : L0.length ≤ B0 ∧ B0 ≤ 32 ∧ 1 ≤ B0 ∧ L0.Nodup ∧ ∀ z ∈ L0, (0 : Int) ≤ z
  l1 : L1.length ≤ B1 ∧ B1 ≤ 32 ∧ 1 ≤ B1 ∧ L1.Nodup ∧ ∀ z ∈ L1, (0 : Int) ≤ z
  ne : d0 ≠ d1 ∧ h0 ≠ d0 ∧ h0 ≠ d1 ∧ h1 ≠ d0 ∧ h1 ≠ d1 ∧ h0 ≠ h1
theorem touchL_len {B : Nat} {L : List Int} {n : Int} (h : L.length ≤ B) (hB : 1 ≤ B) : (touchL B L n).length ≤ B := by
  unfold touchL
  rw [List.length_cons]
  split
  · rename_i hm
    rw [List.length_erase_of_mem hm]
    have := List.length_pos_of_mem hm
    omega
  · split
    · rw [List.length_dropLast]
      omega
    · omega
theorem touchL_nd {B : Nat} {L : List Int} {n : Int} (h : L.Nodup) : (touchL B L n).Nodup := by
  unfold touchL
  split
  · exact List.nodup_cons.mpr ⟨fun m => (h.mem_erase_iff.mp m).1 rfl, h.erase n⟩
  · rename_i hm
    split
    · exact List.nodup_cons.mpr ⟨fun m => hm (List.dropLast_subset L m), h.sublist (List.dropLast_sublist L)⟩
    · exact List.nodup_cons.mpr ⟨hm, h⟩
theorem touchL_nn {B : Nat} {L : List Int} {n : Int} (h : ∀ z ∈ L, (0 : Int) ≤ z) (hn : 0 ≤ n) : ∀ z ∈ touchL B L n, (0 : Int) ≤ z := by
  intro z hz
  unfold touchL at hz
  rcases List.mem_cons.mp hz with rfl | hz
  · exact hn
  · split at hz
    · exact h z (List.mem_of_mem_erase hz)
    · split at hz
      · exact h z (List.dropLast_subset L hz)
      · exact h z hz
theorem St2.get {C : Addr} {H : Hp} {p0 d0 h0 p1 d1 h1 : Addr} {B0 B1 : Nat} {L0 L1 : List Int} (s : St2 C H p0 d0 h0 p1 d1 h1 B0 B1 L0 L1) {one : Int} (ho : 0 ≤ one) (ho2 : one < 2) :
    ∃ (p d h : Addr) (B : Nat) (L : List Int), atI [V.ref p0, V.ref p1] one = some (.ref p) ∧ atI [V.ref h0, V.ref h1] one = some (.ref h) ∧ atI [V.int (B0 : Int), V.int (B1 : Int)] one = some (.int (B : Int)) ∧ KeptAt C H p d B L ∧ H h = some (.lst (L.map V.int)) ∧ h ≠ d ∧
      L.length ≤ B ∧ B ≤ 32 ∧ 1 ≤ B ∧ L.Nodup ∧ (∀ z ∈ L, (0 : Int) ≤ z) ∧ ∀ n H1, 0 ≤ n → OffS [d, h] H H1 → KeptAt C H1 p d B (touchL B L n) → H1 h = some (.lst ((touchL B L n).map V.int)) → (∃ M0 M1, St2 C H1 p0 d0 h0 p1 d1 h1 B0 B1 M0 M1) ∧ OffS [d0, h0, d1, h1] H H1 := by
  obtain ⟨k0, k1, e0, e1, ⟨a1, a2, a3, a4, a5⟩, ⟨b1, b2, b3, b4, b5⟩, n1, n2, n3, n4, n5, n6⟩ := s
  have pn : ∀ {p d b : Addr} {B : Nat} {L : List Int} {xs : List V}, KeptAt C H p d B L → H b = some (.lst xs) → p ≠ b := fun ⟨⟨_, h⟩, _⟩ hb => ne_of h hb (by intro z; cases z)
  have : one = 0 ∨ one = 1 := by omega
  rcases this with rfl | rfl
  · refine ⟨p0, d0, h0, B0, L0, rfl, rfl, rfl, k0, e0, n2, a1, a2, a3, a4, a5, fun n H1 hn o k e => ⟨⟨touchL B0 L0 n, L1, k, ?_, e, ?_, ⟨touchL_len a1 a3, a2, a3, touchL_nd a4, touchL_nn a5 hn⟩, ⟨b1, b2, b3, b4, b5⟩, n1, n2, n3, n4, n5, n6⟩, fun b u nb hb => o b u (fun m => nb (by rcases List.mem_cons.mp m with rfl | m; simp; rcases List.mem_cons.mp m with rfl | m; simp; cases m)) hb⟩⟩
    · have q1 := pn k1 k0.2
      have q2 := pn k1 e0
      obtain ⟨⟨dx, hp⟩, hd⟩ := k1
      exact ⟨⟨dx, o _ _ (by simp [q1, q2]) hp⟩, o _ _ (by simp [Ne.symm n1, Ne.symm n3]) hd⟩
    · exact o _ _ (by simp [n4, Ne.symm n6]) e1
  · refine ⟨p1, d1, h1, B1, L1, rfl, rfl, rfl, k1, e1, n5, b1, b2, b3, b4, b5, fun n H1 hn o k e => ⟨⟨L0, touchL B1 L1 n, ?_, k, ?_, e, ⟨a1, a2, a3, a4, a5⟩, ⟨touchL_len b1 b3, b2, b3, touchL_nd b4, touchL_nn b5 hn⟩, n1, n2, n3, n4, n5, n6⟩, fun b u nb hb => o b u (fun m => nb (by rcases List.mem_cons.mp m with rfl | m; simp; rcases List.mem_cons.mp m with rfl | m; simp; cases m)) hb⟩⟩
    · have q1 := pn k0 k1.2
      have q2 := pn k0 e1
      obtain ⟨⟨dx, hp⟩, hd⟩ := k0
      exact ⟨⟨dx, o _ _ (by simp [q1, q2]) hp⟩, o _ _ (by simp [n1, Ne.symm n4]) hd⟩
    · exact o _ _ (by simp [n3, n6]) e0
theorem St2.same {C : Addr} {H H1 : Hp} {p0 d0 h0 p1 d1 h1 : Addr} {B0 B1 : Nat} {L0 L1 : List Int} (s : St2 C H p0 d0 h0 p1 d1 h1 B0 B1 L0 L1) (e : Same H H1) : St2 C H1 p0 d0 h0 p1 d1 h1 B0 B1 L0 L1 :=
  ⟨s.k0.same e, s.k1.same e, e _ _ s.e0, e _ _ s.e1, s.l0, s.l1, s.ne⟩
def spKeptL (C : Addr) : Sp := fun vs H Q _ => ∃ (p d : Addr) (B : Nat) (L : List Int), vs = [.ref p] ∧ KeptAt C H p d B L ∧ ∀ t H1, H t = none → Same H H1 → H1 t = some (.lst (L.map V.int)) → Q (.ref t) H1
def spRefused (K : PySem.W.Frag) (C : Addr) : Sp := fun vs H Q _ => ∃ (p d : Addr) (B : Nat) (L : List Int) (x : V) (T : String) (dt : PyData), vs = [.ref p, x] ∧ KeptAt C H p d B L ∧ L.length ≤ B ∧ B ≤ 32 ∧ 1 ≤ B ∧ Th K H x T ∧ lineOk x = false ∧
  (∀ H1, Same H H1 → Shw K H1 x dt) ∧ dt.showable = true ∧ dt.depth ≤ 60 ∧ dt.shown.length ≤ sizeLine ∧ ∀ H1, Same H H1 → Q (.bl true) H1
def spTouched (K : PySem.W.Frag) (C : Addr) : Sp := fun vs H Q _ => ∃ (p d h : Addr) (B : Nat) (L : List Int) (n : Int), vs = [.ref p, .ref h, .int (B : Int), .int n] ∧ KeptAt C H p d B L ∧ H h = some (.lst (L.map V.int)) ∧ h ≠ d ∧ L.length ≤ B ∧ B ≤ 32 ∧ 1 ≤ B ∧ L.Nodup ∧ 0 ≤ n ∧
  ∀ H1, OffS [d, h] H H1 → KeptAt C H1 p d B (touchL B L n) → H1 h = some (.lst ((touchL B L n).map V.int)) → Q (.bl true) H1
def spLKept (K : PySem.W.Frag) (C : Addr) : Sp := fun vs H Q _ => ∃ (p d h : Addr) (B : Nat) (L : List Int), vs = [.ref p, .ref h] ∧ KeptAt C H p d B L ∧ SqL K H h (L.map V.int) ∧ L.length ≤ 32 ∧ ∀ H1, Same H H1 → Q (.bl true) H1
def spLaw (K : PySem.W.Frag) : Sp := fun vs H Q _ => ∃ (a : Addr) (ns : List Int), vs = [.ref a] ∧ SqL K H a (ns.map V.int) ∧ ns.length ≤ 63 ∧ ∀ H', Q (.bl true) H'
section
variable {P : Program} {w : World} {K : PySem.W.Frag} {mg : Str → Option Value} {base : Heap}
theorem ok_keptL {f C_Kept : Addr} {fd : FuncData} (F : Fun K "lines_kept" "Kept.lines_kept" s_Kept_lines_kept f fd) (z_list : mg "list" = none) (K_Kept : Cls K C_Kept) (A_Kept_had : NoAttr K C_Kept "had") : FnOk P w K mg base CX0 1 f fd ["self"] (spKeptL C_Kept) := by
  refine F.ok sc_Kept_lines_kept (fun vs H Q E h => ?_) (fun cdv A outer s H vs Q E hr h => ?_)
  · obtain ⟨p, d, B, L, rfl, _⟩ := h
    rfl
  · obtain ⟨p, d, B, L, rfl, ⟨⟨dx, hp⟩, hd⟩, q⟩ := h
    refine ⟨_, (pss_one (ps_ret (pe_callTy (call_listR (K := K)) (by rfl) z_list (by decide +kernel) (pa_cons (pe_fldK (pv 0) rfl (K := K)) pa_nil)))), ?_⟩
    walk_at "rd"
    exact ⟨_, _, _, hp, K_Kept, A_Kept_had, _, nf_had, d, rfl, _, .inl (seq_of hd), New.intro fun t H1 nt s1 h1 => q t H1 nt s1 h1⟩
theorem ok_refused {f C_Kept C_NoLine C_RoomError : Addr} {fd : FuncData} (F : Fun K "_law_refused" "_law_refused" s_law_refused f fd) (z_isinstance : mg "isinstance" = none) (z_repr : mg "repr" = none) (z_ValueError : mg "ValueError" = none) (G_RoomError : mg "RoomError" = some (.ref C_RoomError)) (G_NoLine : mg "NoLine" = some (.ref C_NoLine)) (Y_NoLine : XfC K C_NoLine) (I_NoLine : ExcC K C_NoLine) (B_NoLine_found : PySem.W.findIn K (.ref C_NoLine) "found" = some none) (E_NoLine_RoomError : PySem.W.exmOne K (.ref C_NoLine) (.ref C_RoomError) = some true) (Q_NoLine_NoLine : PySem.W.kitOne K (.ref C_NoLine) (.ref C_NoLine) = some true) (U_NoLine_ValueError : PySem.W.kitOne K (.ref C_NoLine) (.type "ValueError") = some true) (N_Kept_touch : Nn P w K mg base (L2.CX P w) 4 C_Kept "touch" ["self", "line"] (spTouch K C_Kept C_NoLine)) : FnOkG P w K mg base CX0 5 f fd ["_law_store", "_law_thing"] (spRefused K C_Kept) := by
  refine Fun_okG F sc_law_refused (fun vs H Q E h => ?_) (fun cdv A outer s H vs Q E hr hA h => ?_)
  · obtain ⟨p, d, B, L, x, T, dt, rfl, _⟩ := h
    rfl
  · obtain ⟨p, d, B, L, x, T, dt, rfl, hk, hL, hB, hB1, t, hx, hS, s1, s2, s3, q⟩ := h
    refine ⟨_, (pss_cons (ps_try_as (i := 2) rfl rfl sc_law_refused.nd rfl rfl ⟨rfl, by decide, .inl G_RoomError⟩ takes0 (fun W pn xe tk po => (pss_one (ps_expr (pe_mdS (pv 0) N_Kept_touch (hr.mono (by decide)) (fun σ => passAt tk σ) (pa_cons (pv 1) pa_nil))))) (fun a oe cls d pn hz hf => (pss_one (ps_ret (pe_and (pe_callB (call_isX hz hf (K := K)) (by rfl) z_isinstance (by decide +kernel) (pa_cons (pv 2) (pa_cons (pe_gcl (by rfl) G_NoLine) pa_nil))) (pe_and (pe_cmpR op_eq (pe_callB (call_repr hA hr.units (K := K)) (by rfl) z_repr (by decide +kernel) (pa_cons (pe_xfA hz hf (pv 2) (K := K)) pa_nil)) (pe_callB (call_repr hA hr.units (K := K)) (by rfl) z_repr (by decide +kernel) (pa_cons (pv 1) pa_nil)) (nomark _)) (pe_one (pe_callB (call_isX hz hf (K := K)) (by rfl) z_isinstance (by decide +kernel) (pa_cons (pv 2) (pa_cons (pe_bltn (v := V.ty "ValueError") (u := Value.type "ValueError") (by rfl) z_ValueError (by decide +kernel) rfl) pa_nil))))))))))
      (pss_one (ps_ret pe_bl))), ?_⟩
    walk_at "rd"
    obtain ⟨⟨dx, hp⟩, hd⟩ := id hk
    refine ⟨_, _, hp, nf_touch, p, d, B, L, x, rfl, hk, hL, hB, hB1, .inr ⟨T, t, hx, fun xd H1 nx e1 h1 => ?_⟩⟩
    walk_at "rd"
    refine ⟨true, E_NoLine_RoomError, fun _ a na => ?_, fun h => by cases h⟩
    have sh := hS H1 e1
    refine ⟨_, rfl, I_NoLine, ⟨_, h1⟩, _, .own _, true, Q_NoLine_NoLine, iteP rfl ⟨_, rfl, Y_NoLine, B_NoLine_found, _, h1, _, lk0, dt, sh, s1, s2, s3, dt, sh, s1, s2, s3, iteP rfl ⟨_, rfl, I_NoLine, ⟨_, h1⟩, _, .ty _, true, U_NoLine_ValueError, q H1 e1⟩⟩⟩
theorem ok_touched {f C_Kept C_NoLine : Addr} {fd : FuncData} (F : Fun K "_law_touched" "_law_touched" s_law_touched f fd) (z_len : mg "len" = none) (z_isinstance : mg "isinstance" = none) (z_tuple : mg "tuple" = none) (z_bool : mg "bool" = none) (D_law_whole : Dn P w K mg base CX0 1 "_law_whole" ["_law_found"] (spLWhole K)) (N_Kept_touch : Nn P w K mg base (L2.CX P w) 4 C_Kept "touch" ["self", "line"] (spTouch K C_Kept C_NoLine)) : FnOk P w K mg base CX0 5 f fd ["_law_store", "_law_had", "_law_bound", "_law_line"] (spTouched K C_Kept) := by
  refine F.ok sc_law_touched (fun vs H Q E h => ?_) (fun cdv A outer s H vs Q E hr h => ?_)
  · obtain ⟨p, d, h, B, L, n, rfl, _⟩ := h
    rfl
  · obtain ⟨p, d, h, B, L, n, rfl, hk, hh, nhd, hL, hB, hB1, hN, h0, q⟩ := h
    refine ⟨_, (pss_cons (ps_set (i := 4) sc_law_touched.nd rfl (by first | exact Or.inl rfl | exact Or.inr rfl) pe_non)
      (pss_cons (ps_set (i := 5) sc_law_touched.nd rfl (by first | exact Or.inl rfl | exact Or.inr rfl) (pe_cmpR (op_notIn_seqK (K := K)) (pv 3) (pv 1) (by rfl)))
      (pss_cons (ps_setLc (i := 6) (own := [("_law_other", 7)]) (g := gName 7) rfl sc_law_touched.nd rfl rfl (sw_true rfl rfl rfl (by decide +kernel)) (pi_listK (pv 1) (K := K)) (blkOk_by (own := [("_law_other", 7)]) (N := ["_law_store", "_law_had", "_law_bound", "_law_line", "_law_out", "_law_fetched", "_law_rest", "_law_other", "_law_told"]) (sc := defScope s_law_touched) (by decide +kernel)) (fun _ _ _ _ _ => pg_name (i := 7) sc_law_touched.nd rfl (Or.inl rfl)) (fun _ _ _ _ _ => (pts_one (pt_cmpR op_ne (pv 7) (pv 3) (nomark _)))) (fun _ _ _ _ _ => (pv 7)))
      (pss_cons (ps_if (PW.pt (pw_and (pt_val (pv 5)) (pw_and1 (pt_cmpR op_eq (pe_callB (call_lenR (K := K)) (by rfl) z_len (by decide +kernel) (pa_cons (pv 1) pa_nil)) (pv 2) (nomark _))))) (pss_cons (ps_set (i := 4) sc_law_touched.nd rfl (by first | exact Or.inl rfl | exact Or.inr rfl) (pe_ix (ix_listK (K := K)) (pv 1) (pe_un un_neg pe_int) (fun _ _ => rfl)))
      (pss_one (ps_set (i := 6) sc_law_touched.nd rfl (by first | exact Or.inl rfl | exact Or.inr rfl) (pe_slice (sl_listK (K := K)) (pv 1) po_none (po_some (pe_un un_neg pe_int)))))) pss_nil)
      (pss_cons (ps_asg (pe_op (op_catS (K := K)) (pe_lst (pa_cons (pv 3) pa_nil)) (pv 6)) (pg_slall (pv 1)))
      (pss_cons (ps_set (i := 8) sc_law_touched.nd rfl (by first | exact Or.inl rfl | exact Or.inr rfl) (pe_md (pv 0) N_Kept_touch (hr.mono (by decide)) passF (pa_cons (pv 3) pa_nil)))
      (pss_cons (ps_if (PW.pt (pw_or (pt_not (pt_val (pe_callB (call_isiK' (K := K)) (by rfl) z_isinstance (by decide +kernel) (pa_cons (pv 8) (pa_cons (pe_bltn (v := V.ty "tuple") (u := Value.type "tuple") (by rfl) z_tuple (by decide +kernel) rfl) pa_nil))))) (pw_or (pt_cmpR op_ne (pe_callB (call_lenR (K := K)) (by rfl) z_len (by decide +kernel) (pa_cons (pv 8) pa_nil)) pe_int (nomark _)) (pw_or1 (pt_not (pt_val (pe_callB (call_isiK' (K := K)) (by rfl) z_isinstance (by decide +kernel) (pa_cons (pe_ix (ix_tupK (K := K)) (pv 8) pe_int (fun _ _ => rfl)) (pa_cons (pe_bltn (v := V.ty "bool") (u := Value.type "bool") (by rfl) z_bool (by decide +kernel) rfl) pa_nil))))))))) (pss_one (ps_ret pe_bl)) pss_nil)
      (pss_one (ps_ret (pe_and (pe_cmpR (op_eqDK hr.units (K := K)) (pv 8) (pe_tup (pa_cons (pv 5) (pa_cons (pv 4) pa_nil))) (nomark _)) (pe_one (pe_or (pe_cmpR op_isN (pv 4) pe_non (nomark _)) (pe_one (pe_cd D_law_whole (hr.mono (by decide)) (by rfl) pass0 (pa_cons (pe_ix (ix_tupK (K := K)) (pv 8) pe_int (fun _ _ => rfl)) pa_nil))))))))))))))), ?_⟩
    walk_at "rd"
    obtain ⟨⟨dx, hp⟩, hd⟩ := id hk
    have nph : p ≠ h := ne_of hp hh (by intro z; cases z)
    refine ⟨_, .inl (seq_of hh), rfl, flat_ints L, ⟨_, seq_of hh⟩, ?_⟩
    rw [inV_int]
    -- the touch, and what is told of it
    have fin : ∀ (H4 : Hp) (M : List Int) (R : V → Hp → Prop), Same H H4 → ∀ H5, Off h H4 H5 → H5 h = some (.lst ((n :: M).map V.int)) → n :: M = touchL B L n →
        (∀ t H6, OffS [d, h] H H6 → KeptAt C_Kept H6 p d B (touchL B L n) → H6 h = some (.lst ((touchL B L n).map V.int)) → H6 t = some (.tup [.bl (!decide (n ∈ L)), outL B L n]) → R (.ref t) H6) →
        ∃ x_10 x_11, H5 p = some (HO.ins C_Kept x_10 x_11) ∧ List.lookup (Str.ofString "touch") x_11 = none ∧ spTouch K C_Kept C_NoLine [V.ref p, V.int n] H5 R E0 := by
      intro H4 M R s4 H5 o5 h5 eM r
      have k4 := hk.same s4
      obtain ⟨⟨dx4, hp4⟩, hd4⟩ := id k4
      have hp5 := o5 _ _ nph hp4
      refine ⟨_, _, hp5, nf_touch, p, d, B, L, .int n, rfl, ⟨⟨_, hp5⟩, o5 _ _ (Ne.symm nhd) hd4⟩, hL, hB, hB1, .inl ⟨n, rfl, h0, fun t H6 nt o6 k6 h6 => ?_⟩⟩
      rw [eM] at h5
      exact r t H6 (((OffS.same s4).trans (OffS.off o5 (by simp))).trans (OffS.off o6 (by simp))) k6 (o6 _ _ nhd h5) h6
    have told : ∀ (t : Addr) (H6 : Hp) (o : V) (R : V → Hp → Prop), H6 t = some (.tup [.bl (!decide (n ∈ L)), outL B L n]) → o = outL B L n → (∀ H7, Same H6 H7 → R (.bl true) H7) →
        ∃ t1 u1, ClsV (V.ty "tuple") u1 ∧ TyX K H6 (.ref t) t1 ∧ ∃ b1, W.kitOne K t1 u1 = some b1 ∧ if b1 = false then Q (.bl false) H6 else ∃ q, V.ref t = .ref q ∧ ∃ xs, (SqL K H6 q xs ∨ SqT K H6 q xs) ∧ if ¬ (xs.length : Int) = 2 then Q (.bl false) H6 else
          ∃ q, V.ref t = .ref q ∧ ∃ xs, SqT K H6 q xs ∧ ∃ y, atI xs 0 = some y ∧ ∃ t2 u2, ClsV (V.ty "bool") u2 ∧ TyX K H6 y t2 ∧ ∃ b2, W.kitOne K t2 u2 = some b2 ∧ if b2 = false then Q (.bl false) H6 else 2 ≤ sizeLine ∧ New H6 (.tup [.bl (!decide (n ∈ L)), o]) fun q H7 => rEqD K (.ref t) (.ref q) H7 R := by
      intro t H6 o R h6 eo r
      refine isiT (thg_tup (seqT_of h6)) (by decide) (iteN (by decide) ⟨t, rfl, _, .inr (seqT_of h6), iteN (fun h => h rfl) ⟨t, rfl, _, seqT_of h6, _, atI_nat (j := 0) rfl, isiT thg_bl (by decide) (iteN (by decide) ⟨by decide, New.intro fun u H7 nu s7 h7 => ?_⟩)⟩⟩)
      rw [eo] at h7
      refine eq_tups (seqT_of (s7 _ _ h6)) (seqT_of h7) ?_ (r H7 s7)
      unfold outL
      split
      · rfl
      · split
        · split <;> rfl
        · rfl
    have ef : ((L.map V.int).filter fun x => !decide (x = V.int n)).map (fun x => x) = (L.filter fun y => decide (y ≠ n)).map V.int := by
      rw [List.map_id', List.filter_map]
      congr 1
      apply List.filter_congr
      intro y _
      show (!decide (V.int y = V.int n)) = decide (y ≠ n)
      by_cases e : y = n
      · subst e
        simp
      · rw [decide_eq_false (fun h => e (V.int.inj h)), decide_eq_true e]
        rfl
    refine Cmp.pureF (fun x => !decide (x = V.int n)) (fun x => x) (seq_of hh) (by rw [List.length_map]; omega) (fun _ => rfl) (fun x H2 R hx s2 r => ?_) (fun x H2 R hx _ s2 r => ?_) (fun u H2 nu s2 h2 => ?_)
    · obtain ⟨z, hz, rfl⟩ := List.mem_map.mp hx
      walk_at "rd"
      have e : decide (V.int z = V.int n) = decide (z = n) := decide_eq_decide.mpr ⟨V.int.inj, congrArg _⟩
      rw [← e]
      exact r H2 (Same.refl H2)
    · walk_at "rd"
      exact r H2 (Same.refl H2)
    · rw [ef] at h2
      by_cases hm : n ∈ L
      · have eE : L.filter (fun y => decide (y ≠ n)) = L.erase n := by
          rw [hN.erase_eq_filter]
          apply List.filter_congr
          intro y _
          by_cases e : y = n
          · subst e
            simp
          · simp [e]
        rw [eE] at h2
        have lE : (L.erase n).length ≤ 32 := by
          have := List.length_erase_le (a := n) (l := L)
          omega
        have eT : n :: L.erase n = touchL B L n := by
          unfold touchL
          rw [if_pos hm]
        rw [decide_eq_true hm]
        refine iteN (by decide) ⟨by decide, New.intro fun v H3 nv s3 h3 => ⟨u, rfl, _, seq_of h3, _, seq_of (s3 _ _ h2), by rw [List.length_map]; exact sz100 (by rw [List.length_singleton]; omega), New.intro fun w' H4 nw s4 h4 => ?_⟩⟩
        have s04 : Same H H4 := s2.trans (s3.trans s4)
        refine ⟨_, s04 _ _ hh, _, h4, ne_of_none hh ((s2.trans s3).free nw), sz100 (by rw [List.length_map, List.length_append, List.length_map, List.length_singleton]; omega), Upd.intro fun H5 o5 h5 => ?_⟩
        refine fin H4 (L.erase n) _ s04 H5 o5 h5 eT fun t H6 of k6 h6 ht => ?_
        have := told t H6 .non (fun x H1 => ∃ c, x = V.bl c ∧ if c = true then Q (V.bl true) H1 else Q (V.bl false) H1) ht (by unfold outL; rw [if_pos hm]) (fun H7 s7 => ⟨true, rfl, iteP rfl (q H7 (of.trans (OffS.same s7)) (k6.same s7) (s7 _ _ h6))⟩)
        rw [decide_eq_true hm] at this
        exact this
      · rw [filter_out hm] at h2
        rw [decide_eq_false hm]
        refine iteP rfl ⟨_, .inl (s2.seq (seq_of hh)), ite2 (fun eB => ?_) (fun eB => ?_)⟩
        · rw [List.length_map] at eB
          have eB' : L.length = B := by omega
          obtain ⟨M, z, eL⟩ : ∃ M z, L = M ++ [z] := by
            have ne : L ≠ [] := fun e => by
              rw [e] at eB'
              simp at eB'
              omega
            exact ⟨L.dropLast, L.getLast ne, (List.dropLast_concat_getLast ne).symm⟩
          have eLm : L.map V.int = M.map V.int ++ [V.int z] := by rw [eL, List.map_append]; rfl
          have lM : M.length ≤ 32 := by
            have := congrArg List.length eL
            rw [List.length_append, List.length_singleton] at this
            omega
          have eT : n :: M = touchL B L n := by
            unfold touchL
            rw [if_neg hm, if_pos eB', eL, List.dropLast_concat]
          have eO : V.int z = outL B L n := by
            unfold outL
            rw [if_neg hm, if_pos eB', eL, List.getLast?_concat]
          refine ⟨_, s2.seq (seq_of hh), V.int z, by rw [eLm]; exact atI_last _ _, _, s2.seq (seq_of hh), New.intro fun v0 H3 nv0 s3 h3 => ?_⟩
          rw [eLm, cut_init] at h3
          refine ⟨by decide, New.intro fun v H3' nv s3' h3' => ⟨_, seq_of h3', _, seq_of (s3' _ _ h3), by rw [List.length_map]; exact sz100 (by rw [List.length_singleton]; omega), New.intro fun w' H4 nw s4 h4 => ?_⟩⟩
          have s04 : Same H H4 := s2.trans (s3.trans (s3'.trans s4))
          refine ⟨_, s04 _ _ hh, _, h4, ne_of_none hh ((s2.trans (s3.trans s3')).free nw), sz100 (by rw [List.length_map, List.length_append, List.length_map, List.length_singleton]; omega), Upd.intro fun H5 o5 h5 => ?_⟩
          refine fin H4 M _ s04 H5 o5 h5 eT fun t H6 of k6 h6 ht => ?_
          have := told t H6 (.int z) (fun x H1 => ∃ c, x = V.bl c ∧ if c = true then if V.int z = V.non then Q (V.bl true) H1 else ∃ p, V.ref t = V.ref p ∧ ∃ x, SqT K H1 p x ∧ ∃ x_22, atI x 1 = some x_22 ∧ spLWhole K [x_22] H1 Q E0 else Q (V.bl false) H1) ht eO (fun H7 s7 => ⟨true, rfl, iteP rfl (iteN (fun h => nomatch h) ⟨t, rfl, _, seqT_of (s7 _ _ ht), _, atI_nat (j := 1) rfl, _, _, rfl, by rw [← eO]; exact thg_int, ?_⟩)⟩)
          · rw [decide_eq_false hm] at this
            exact this
          · rw [← eO]
            exact q H7 (of.trans (OffS.same s7)) (k6.same s7) (s7 _ _ h6)
        · rw [List.length_map] at eB
          have eB' : ¬ L.length = B := by omega
          have eT : n :: L = touchL B L n := by
            unfold touchL
            rw [if_neg hm, if_neg eB']
          refine ⟨by decide, New.intro fun v H3 nv s3 h3 => ⟨u, rfl, _, seq_of h3, _, seq_of (s3 _ _ h2), by rw [List.length_map]; exact sz100 (by rw [List.length_singleton]; omega), New.intro fun w' H4 nw s4 h4 => ?_⟩⟩
          have s04 : Same H H4 := s2.trans (s3.trans s4)
          refine ⟨_, s04 _ _ hh, _, h4, ne_of_none hh ((s2.trans s3).free nw), sz100 (by rw [List.length_map, List.length_append, List.length_map, List.length_singleton]; omega), Upd.intro fun H5 o5 h5 => ?_⟩
          refine fin H4 L _ s04 H5 o5 h5 eT fun t H6 of k6 h6 ht => ?_
          have := told t H6 .non (fun x H1 => ∃ c, x = V.bl c ∧ if c = true then Q (V.bl true) H1 else Q (V.bl false) H1) ht (by unfold outL; rw [if_neg hm, if_neg eB']) (fun H7 s7 => ⟨true, rfl, iteP rfl (q H7 (of.trans (OffS.same s7)) (k6.same s7) (s7 _ _ h6))⟩)
          rw [decide_eq_false hm] at this
          exact this
theorem ok_lkept {f C_Kept : Addr} {fd : FuncData} (F : Fun K "_law_kept" "_law_kept" s_law_kept f fd) (z_isinstance : mg "isinstance" = none) (z_list : mg "list" = none) (D_law_whole : Dn P w K mg base CX0 1 "_law_whole" ["_law_found"] (spLWhole K)) (N_Kept_lines_kept : Nn P w K mg base CX0 1 C_Kept "lines_kept" ["self"] (spKeptL C_Kept)) : FnOk P w K mg base CX0 2 f fd ["_law_store", "_law_had"] (spLKept K C_Kept) := by
  refine F.ok sc_law_kept (fun vs H Q E h => ?_) (fun cdv A outer s H vs Q E hr h => ?_)
  · obtain ⟨p, d, h, B, L, rfl, _⟩ := h
    rfl
  · obtain ⟨p, d, h, B, L, rfl, hk, hh, hL, q⟩ := h
    refine ⟨_, (pss_cons (ps_set (i := 2) sc_law_kept.nd rfl (by first | exact Or.inl rfl | exact Or.inr rfl) (pe_md0 (pv 0) N_Kept_lines_kept (hr.mono (by decide)) pass0))
      (pss_cons (ps_if (PW.pt (pw_or (pt_not (pt_val (pe_callB (call_isiK' (K := K)) (by rfl) z_isinstance (by decide +kernel) (pa_cons (pv 2) (pa_cons (pe_bltn (v := V.ty "list") (u := Value.type "list") (by rfl) z_list (by decide +kernel) rfl) pa_nil))))) (pw_or (pt_cmpR (op_neDK hr.units (K := K)) (pv 2) (pv 1) (nomark _)) (pw_or1 (pt_cmpR (op_neDK hr.units (K := K)) (pe_lc (own := [("_law_line", 3)]) (g := gName 3) rfl sc_law_kept.nd (pi_listK (pv 2) (K := K)) (blkOk_by (own := [("_law_line", 3)]) (N := ["_law_store", "_law_had", "_law_told", "_law_line"]) (sc := defScope s_law_kept) (by decide +kernel)) (fun _ _ _ _ _ => pg_name (i := 3) sc_law_kept.nd rfl (Or.inl rfl)) (fun _ _ _ _ _ => (pts_one (pt_not (pt_val (pe_cd D_law_whole (hr.mono (by decide)) (by rfl) pass0 (pa_cons (pv 3) pa_nil)))))) (fun _ _ _ _ _ => (pv 3))) (pe_lst pa_nil) (nomark _)))))) (pss_one (ps_ret pe_bl)) pss_nil)
      (pss_cons (ps_expr (pe_bmK (K := K) PySem.F.plainAttrs_list PySem.F.slot_list_append PySem.F.type_list_append mt_append (pv 2) (pa_cons pe_int pa_nil)))
      (pss_one (ps_ret (pe_cmpR (op_eqDK hr.units (K := K)) (pe_md0 (pv 0) N_Kept_lines_kept (hr.mono (by decide)) pass0) (pv 1) (nomark _))))))), ?_⟩
    walk_at "rd"
    obtain ⟨⟨dx, hp⟩, hd⟩ := id hk
    refine ⟨_, _, hp, nf_kept, p, d, B, L, rfl, hk, fun t H1 nt s1 h1 => isiT (thg_lst h1) (by decide) (iteN (by decide) (ne_lst (seq_of h1) (s1.seq hh) (ints_pd L) ⟨false, rfl, iteN (by decide) ?_⟩))⟩
    refine ⟨t, rfl, ⟨_, seq_of h1⟩, Cmp.pureF (fun x => !isWh x) (fun x => x) (seq_of h1) (by rw [List.length_map]; omega) (fun _ => rfl) (fun x H2 R hx s2 r => ?_) (fun x H2 R hx _ s2 r => ?_) (fun u H2 nu s2 h2 => ?_)⟩
    · obtain ⟨z, hz, rfl⟩ := List.mem_map.mp hx
      walk_at "rd"
      exact ⟨_, _, rfl, thg_int, true, rfl, r H2 (Same.refl H2)⟩
    · walk_at "rd"
      exact r H2 (Same.refl H2)
    · have e : (((L.map V.int).filter fun x => !isWh x).map fun x => x) = [] := by
        rw [List.map_id']
        apply List.filter_eq_nil_iff.mpr
        intro x hx
        obtain ⟨z, hz, rfl⟩ := List.mem_map.mp hx
        exact fun h => nomatch h
      rw [e] at h2
      refine ⟨by decide, New.intro fun v H3 nv s3 h3 => ne_lst (seq_of (s3 _ _ h2)) (seq_of h3) rfl ⟨false, rfl, iteN (by decide) ?_⟩⟩
      have t3 := s3 _ _ (s2 _ _ h1)
      refine ⟨tyv_list (seq_of t3), t, rfl, _, t3, by rw [List.length_map]; exact sz100l (by omega), Upd.intro fun H4 o4 h4 => ?_⟩
      have s4 : Same H H4 := Same.off (s1.trans (s2.trans s3)) nt o4
      have k4 := hk.same s4
      obtain ⟨⟨dx4, hp4⟩, hd4⟩ := id k4
      exact ⟨_, _, hp4, nf_kept, p, d, B, L, rfl, k4, fun w H5 nw s5 h5 => eq_lst (seq_of h5) ((s4.trans s5).seq hh) (ints_pd L) (q H5 (s4.trans s5))⟩
theorem ok_law {f C_Kept : Addr} {fd : FuncData} (F : Fun K "law" "law" s_law f fd) (z_len : mg "len" = none) (D_law_drawn : Dn P w K mg base CX0 1 "_law_drawn" ["_law_cell", "_law_sizes"] (spDrawn K)) (M_Kept : Mn P w K mg base CX0 4 C_Kept "Kept" ["self", "most"] (spKInit C_Kept)) (D_law_kept : Dn P w K mg base CX0 2 "_law_kept" ["_law_store", "_law_had"] (spLKept K C_Kept)) (D_law_refused : DnG P w K mg base CX0 5 "_law_refused" ["_law_store", "_law_thing"] (spRefused K C_Kept)) (D_law_touched : Dn P w K mg base CX0 5 "_law_touched" ["_law_store", "_law_had", "_law_bound", "_law_line"] (spTouched K C_Kept)) : FnOkG P w K mg base CX0 6 f fd ["_law_script"] (spLaw K) := by
  refine Fun_okG F sc_law (fun vs H Q E h => ?_) (fun cdv A outer s H vs Q E hr hA h => ?_)
  · obtain ⟨a, ns, rfl, _⟩ := h
    rfl
  · obtain ⟨a, ns, rfl, hS, hl, q⟩ := h
    refine ⟨_, (pss_cons (ps_set (i := 1) sc_law.nd rfl (by first | exact Or.inl rfl | exact Or.inr rfl) (pe_cd D_law_drawn (hr.mono (by decide)) (by rfl) pass0 (pa_cons (pe_ix (ix_listK (K := K)) (pe_op (op_catS (K := K)) (pv 0) (pe_lst (pa_cons pe_int pa_nil))) pe_int (fun _ _ => rfl)) (pa_cons (pe_lst (pa_cons pe_int (pa_cons pe_int (pa_cons pe_int (pa_cons pe_int (pa_cons pe_int (pa_cons pe_int pa_nil))))))) pa_nil))))
      (pss_cons (ps_set (i := 2) sc_law.nd rfl (by first | exact Or.inl rfl | exact Or.inr rfl) (pe_lst (pa_cons (pe_op op_add pe_int (pe_ix (ix_listK (K := K)) (pv 1) (pe_op op_add pe_int (pe_ix (ix_listK (K := K)) (pv 1) pe_int (fun _ _ => rfl))) (fun _ _ => rfl))) (pa_cons (pe_op op_add pe_int (pe_ix (ix_listK (K := K)) (pv 1) (pe_op op_add pe_int (pe_ix (ix_listK (K := K)) (pv 1) pe_int (fun _ _ => rfl))) (fun _ _ => rfl))) pa_nil))))
      (pss_cons (ps_set (i := 3) sc_law.nd rfl (by first | exact Or.inl rfl | exact Or.inr rfl) (pe_lst (pa_cons (pe_mk M_Kept (hr.mono (by decide)) (by rfl) pass0 (pa_cons (pe_ix (ix_listK (K := K)) (pv 2) pe_int (fun _ _ => rfl)) pa_nil)) (pa_cons (pe_mk M_Kept (hr.mono (by decide)) (by rfl) pass0 (pa_cons (pe_ix (ix_listK (K := K)) (pv 2) pe_int (fun _ _ => rfl)) pa_nil)) pa_nil))))
      (pss_cons (ps_set (i := 4) sc_law.nd rfl (by first | exact Or.inl rfl | exact Or.inr rfl) (pe_lst (pa_cons (pe_lst pa_nil) (pa_cons (pe_lst pa_nil) pa_nil))))
      (pss_cons (ps_if (pt_not (pt_val (pe_cd D_law_kept (hr.mono (by decide)) (by rfl) pass0 (pa_cons (pe_ix (ix_listK (K := K)) (pv 3) pe_int (fun _ _ => rfl)) (pa_cons (pe_lst pa_nil) pa_nil))))) (pss_one (ps_ret pe_bl)) pss_nil)
      (pss_cons (ps_for PassesOwn.never rfl (pi_listK (pe_op (op_catS (K := K)) (pe_slice (sl_listK (K := K)) (pv 0) po_none (po_some pe_int)) (pe_lst (pa_cons (pe_callB (call_lenR (K := K)) (by rfl) z_len (by decide +kernel) (pa_cons (pv 0) pa_nil)) pa_nil))) (K := K)) (pg_name (i := 5) sc_law.nd rfl (by first | exact Or.inl rfl | exact Or.inr rfl)) (pss_cons (ps_set (i := 6) sc_law.nd rfl (by first | exact Or.inl rfl | exact Or.inr rfl) (pe_cd D_law_drawn (hr.mono (by decide)) (by rfl) pass0 (pa_cons (pv 5) (pa_cons (pe_lst (pa_cons pe_int (pa_cons pe_int (pa_cons pe_int (pa_cons pe_int (pa_cons (pe_op op_pow pe_int pe_int) (pa_cons pe_int (pa_cons pe_int pa_nil)))))))) pa_nil))))
      (pss_cons (ps_set (i := 7) sc_law.nd rfl (by first | exact Or.inl rfl | exact Or.inr rfl) (pe_ix (ix_listK (K := K)) (pv 6) pe_int (fun _ _ => rfl)))
      (pss_cons (ps_set (i := 8) sc_law.nd rfl (by first | exact Or.inl rfl | exact Or.inr rfl) (pe_ix (ix_listK (K := K)) (pe_lst (pa_cons (pe_ix (ix_listK (K := K)) (pv 6) pe_int (fun _ _ => rfl)) (pa_cons (pe_ix (ix_listK (K := K)) (pv 6) pe_int (fun _ _ => rfl)) (pa_cons (pe_ix (ix_listK (K := K)) (pv 6) pe_int (fun _ _ => rfl)) (pa_cons (pe_ix (ix_listK (K := K)) (pv 6) pe_int (fun _ _ => rfl)) (pa_cons (pe_ix (ix_listK (K := K)) (pe_op (op_catS (K := K)) (pe_ix (ix_listK (K := K)) (pv 4) (pv 7) (fun _ _ => rfl)) (pe_lst (pa_cons pe_int pa_nil))) pe_int (fun _ _ => rfl)) pa_nil)))))) (pe_ix (ix_listK (K := K)) (pv 6) pe_int (fun _ _ => rfl)) (fun _ _ => rfl)))
      (pss_cons (ps_if (pt_cmpR op_eq (pe_ix (ix_listK (K := K)) (pv 6) pe_int (fun _ _ => rfl)) pe_int (nomark _)) (pss_cons (ps_set (i := 9) sc_law.nd rfl (by first | exact Or.inl rfl | exact Or.inr rfl) (pe_ix (ix_listK (K := K)) (pe_lst (pa_cons (pe_un un_neg pe_int) (pa_cons pe_bl (pa_cons pe_non (pa_cons pe_str (pa_cons (pe_lst (pa_cons pe_int pa_nil)) (pa_cons (pe_tup (pa_cons pe_int pa_nil)) (pa_cons pe_dnewK (pa_cons (pe_op op_sub pe_int (pe_op op_pow pe_int pe_int)) pa_nil))))))))) (pe_ix (ix_listK (K := K)) (pv 6) pe_int (fun _ _ => rfl)) (fun _ _ => rfl)))
      (pss_one (ps_if (pt_not (pt_val (pe_cdG D_law_refused hA (hr.mono (by decide)) (by rfl) pass0 (pa_cons (pe_ix (ix_listK (K := K)) (pv 3) (pv 7) (fun _ _ => rfl)) (pa_cons (pv 9) pa_nil))))) (pss_one (ps_ret pe_bl)) pss_nil))) pss_nil)
      (pss_cons (ps_if (pt_not (pt_val (pe_cd D_law_touched (hr.mono (by decide)) (by rfl) pass0 (pa_cons (pe_ix (ix_listK (K := K)) (pv 3) (pv 7) (fun _ _ => rfl)) (pa_cons (pe_ix (ix_listK (K := K)) (pv 4) (pv 7) (fun _ _ => rfl)) (pa_cons (pe_ix (ix_listK (K := K)) (pv 2) (pv 7) (fun _ _ => rfl)) (pa_cons (pv 8) pa_nil))))))) (pss_one (ps_ret pe_bl)) pss_nil)
      (pss_one (ps_if (PW.pt (pw_or (pt_not (pt_val (pe_cd D_law_kept (hr.mono (by decide)) (by rfl) pass0 (pa_cons (pe_ix (ix_listK (K := K)) (pv 3) pe_int (fun _ _ => rfl)) (pa_cons (pe_ix (ix_listK (K := K)) (pv 4) pe_int (fun _ _ => rfl)) pa_nil))))) (pw_or1 (pt_not (pt_val (pe_cd D_law_kept (hr.mono (by decide)) (by rfl) pass0 (pa_cons (pe_ix (ix_listK (K := K)) (pv 3) pe_int (fun _ _ => rfl)) (pa_cons (pe_ix (ix_listK (K := K)) (pv 4) pe_int (fun _ _ => rfl)) pa_nil)))))))) (pss_one (ps_ret pe_bl)) pss_nil))))))))
      (pss_one (ps_ret pe_bl)))))))), ?_⟩
    walk_at "rd"
    refine ⟨by decide, New.intro fun u1 G1 n1 s1 g1 => ⟨_, s1.seq hS, _, seq_of g1, by rw [List.length_map]; exact sz100 (by rw [List.length_singleton]; omega), New.intro fun u2 G2 n2 s2 g2 => ?_⟩⟩
    obtain ⟨z0, hz0⟩ := head_int ns 3
    refine ⟨_, seq_of g2, _, hz0, by decide, New.intro fun u3 G3 n3 s3 g3 => ?_⟩
    refine ⟨z0, u3, [2, 4, 32, 2, 4, 32], rfl, seq_of g3, (by decide), by decide, fun uf G4 ws n4 s4 g4 dr => ?_⟩
    obtain ⟨v0, a0, b0, c0⟩ := dr.pick (k := 0) (by decide) rfl
    obtain ⟨m1, v1, a1, b1, c1, d1⟩ : ∃ m v, atI (ws.map V.int) (1 + v0) = some (.int v) ∧ 0 ≤ v ∧ v < m ∧ m ≤ 32 := by
      have : v0 = 0 ∨ v0 = 1 := by omega
      rcases this with rfl | rfl
      · obtain ⟨v, h⟩ := dr.pick (k := 1 + 0) (m := 4) (by decide) rfl
        exact ⟨4, v, h.1, h.2.1, h.2.2, by decide⟩
      · obtain ⟨v, h⟩ := dr.pick (k := 1 + 1) (m := 32) (by decide) rfl
        exact ⟨32, v, h.1, h.2.1, h.2.2, by decide⟩
    obtain ⟨v3, a3, b3, c3⟩ := dr.pick (k := 3) (by decide) rfl
    obtain ⟨m4, v4, a4, b4, c4, d4⟩ : ∃ m v, atI (ws.map V.int) (4 + v3) = some (.int v) ∧ 0 ≤ v ∧ v < m ∧ m ≤ 32 := by
      have : v3 = 0 ∨ v3 = 1 := by omega
      rcases this with rfl | rfl
      · obtain ⟨v, h⟩ := dr.pick (k := 4 + 0) (m := 4) (by decide) rfl
        exact ⟨4, v, h.1, h.2.1, h.2.2, by decide⟩
      · obtain ⟨v, h⟩ := dr.pick (k := 4 + 1) (m := 32) (by decide) rfl
        exact ⟨32, v, h.1, h.2.1, h.2.2, by decide⟩
    obtain ⟨B0, e0⟩ : ∃ B0 : Nat, 1 + v1 = (B0 : Int) := ⟨(1 + v1).toNat, by omega⟩
    obtain ⟨B1, e1⟩ : ∃ B1 : Nat, 1 + v4 = (B1 : Int) := ⟨(1 + v4).toNat, by omega⟩
    have sf := seq_of (K := K) g4
    refine ⟨uf, rfl, _, sf, _, a0, _, rfl, uf, rfl, _, sf, _, a1, _, rfl, uf, rfl, _, sf, _, a3, _, rfl, uf, rfl, _, sf, _, a4, _, rfl, by decide, ?_⟩
    rw [e0, e1]
    refine New.intro fun ub G5 n5 s5 g5 => ⟨_, seq_of g5, _, rfl, Made.intro fun p0 dx0 G6 np0 s6 g6 => ⟨p0, dx0, B0, rfl, g6, by omega, by omega, fun d0 G7 o7 nd0 k7 => ⟨rfl, ?_⟩⟩⟩
    have s67 : Same G5 G7 := Same.off s6 np0 o7
    refine ⟨_, seq_of (s67 _ _ g5), _, rfl, Made.intro fun p1 dx1 G8 np1 s8 g8 => ⟨p1, dx1, B1, rfl, g8, by omega, by omega, fun d1 G9 o9 nd1 k9 => ⟨rfl, ?_⟩⟩⟩
    have s89 : Same G7 G9 := Same.off s8 np1 o9
    refine ⟨by decide, New.intro fun us G10 n10 s10 g10 => ⟨by decide, New.intro fun h0 G11 n11 s11 g11 => ⟨by decide, New.intro fun h1 G12 n12 s12 g12 => ⟨by decide, New.intro fun uh G13 n13 s13 g13 => ?_⟩⟩⟩⟩
    have kd0 := (s89 _ _ k7.2)
    have kd1 := k9.2
    have x1 : d0 ≠ d1 := ne_of_none (s8 _ _ k7.2) nd1
    have x2 : h0 ≠ d0 := Ne.symm (ne_of_none (s10 _ _ kd0) n11)
    have x3 : h0 ≠ d1 := Ne.symm (ne_of_none (s10 _ _ kd1) n11)
    have x4 : h1 ≠ d0 := Ne.symm (ne_of_none (s11 _ _ (s10 _ _ kd0)) n12)
    have x5 : h1 ≠ d1 := Ne.symm (ne_of_none (s11 _ _ (s10 _ _ kd1)) n12)
    have x6 : h0 ≠ h1 := ne_of_none g11 n12
    have sB : Same G9 G13 := s10.trans (s11.trans (s12.trans s13))
    have st : St2 C_Kept G13 p0 d0 h0 p1 d1 h1 B0 B1 [] [] := ⟨(k7.same s89).same sB, k9.same sB, s13 _ _ (s12 _ _ g11), s13 _ _ g12, ⟨by simp, by omega, by omega, List.nodup_nil, fun z h => (nomatch h)⟩, ⟨by simp, by omega, by omega, List.nodup_nil, fun z h => (nomatch h)⟩, x1, x2, x3, x4, x5, x6⟩
    have gs := (s11.trans (s12.trans s13)) _ _ g10
    have gb := sB _ _ (s89 _ _ (s67 _ _ g5))
    have sa : Same H G13 := s1.trans (s2.trans (s3.trans (s4.trans (s5.trans (s67.trans (s89.trans sB))))))
    refine ⟨_, seq_of gs, _, rfl, by decide, New.intro fun u14 G14 n14 s14 g14 => ⟨p0, d0, u14, B0, [], rfl, st.k0.same s14, seq_of g14, by decide, fun G15 s15 => ⟨true, rfl, iteN (by decide) ?_⟩⟩⟩
    have sa15 := sa.trans (s14.trans s15)
    refine ⟨_, sa15.seq hS, New.intro fun u16 G16 n16 s16 g16 => ⟨_, .inl ((sa15.trans s16).seq hS), by decide, New.intro fun u17 G17 n17 s17 g17 => ?_⟩⟩
    rw [show (some 40 : Option Int) = some ((40 : Nat) : Int) from rfl, cut_to, ← List.map_take] at g16
    refine ⟨_, seq_of (s17 _ _ g16), _, seq_of g17, by rw [List.length_map, List.length_take]; exact sz100 (by rw [List.length_singleton]; omega), New.intro fun uc G18 n18 s18 g18 => ?_⟩
    obtain ⟨cs, ec⟩ : ∃ cs : List Int, (ns.take 40).map V.int ++ [V.int ((ns.map V.int).length : Int)] = cs.map V.int := ⟨ns.take 40 ++ [((ns.map V.int).length : Int)], by rw [List.map_append]; rfl⟩
    rw [ec] at g18
    have sC : Same G13 G18 := s14.trans (s15.trans (s16.trans (s17.trans s18)))
    have st18 := st.same sC
    -- what stays
    have nuc : uc ∉ [d0, h0, d1, h1] := by
      have q : Same G13 G17 := s14.trans (s15.trans (s16.trans s17))
      have q0 := Ne.symm (ne_of_none (q _ _ st.k0.2) n18)
      have q1 := Ne.symm (ne_of_none (q _ _ st.k1.2) n18)
      have q2 := Ne.symm (ne_of_none (q _ _ st.e0) n18)
      have q3 := Ne.symm (ne_of_none (q _ _ st.e1) n18)
      simp [q0, q1, q2, q3]
    have nl : ∀ {u : Addr} {x y : V}, G13 u = some (.lst [x, y]) → u ∉ [d0, h0, d1, h1] := fun {u x y} hu => by
      have q0 := ne_of hu st.k0.2 (by intro z; cases z)
      have q1 := ne_of hu st.k1.2 (by intro z; cases z)
      have q2 := ne_of hu st.e0 (by intro z; cases z)
      have q3 := ne_of hu st.e1 (by intro z; cases z)
      simp [q0, q1, q2, q3]
    refine ⟨⟨_, seq_of g18⟩, Loop.list (xs := cs.map V.int) (fun i σ HA => ∃ (y5 y6 y7 y8 y9 : Option V), σ = [some (.ref a), some (.ref uf), some (.ref ub), some (.ref us), some (.ref uh), y5, y6, y7, y8, y9] ∧ OffS [d0, h0, d1, h1] G18 HA ∧ ∃ M0 M1, St2 C_Kept HA p0 d0 h0 p1 d1 h1 B0 B1 M0 M1) ⟨_, _, _, _, _, rfl, OffS.refl, _, _, st18⟩ ?_ ?_ ?_⟩
    · rintro i σ HA _ ⟨y5, y6, y7, y8, y9, rfl, o, _⟩
      exact seq_of (o _ _ nuc g18)
    · rintro i x σ HA hx ⟨y5, y6, y7, y8, y9, rfl, o, M0, M1, sA⟩
      obtain ⟨z, hz, rfl⟩ := int_at hx
      walk_at "rd"
      refine ⟨⟨by decide, by decide, by decide⟩, by decide, New.intro fun w1 H1 m1' t1 f1 => ⟨z, w1, [2, 5, 7, 41, 10 ^ Int.toNat 29, 9, 8], rfl, seq_of f1, (by decide +kernel), by decide, fun wd H2 ds m2' t2 f2 dd2 => ?_⟩⟩
      obtain ⟨e0', j0, j0a, j0b⟩ := dd2.pick (k := 0) (by decide) rfl
      obtain ⟨e1', j1, j1a, j1b⟩ := dd2.pick (k := 1) (by decide) rfl
      obtain ⟨e2', j2, j2a, j2b⟩ := dd2.pick (k := 2) (by decide) rfl
      obtain ⟨e3', j3, j3a, j3b⟩ := dd2.pick (k := 3) (by decide) rfl
      obtain ⟨e4', j4, j4a, j4b⟩ := dd2.pick (k := 4) (by decide) rfl
      obtain ⟨e5', j5, j5a, j5b⟩ := dd2.pick (k := 5) (by decide) rfl
      obtain ⟨e6', j6, j6a, j6b⟩ := dd2.pick (k := 6) (by decide) rfl
      obtain ⟨p, d, h, B, L, ap, ah, aB, k, hh, nhd, lL, lB, lB1, lN, lnn, up⟩ := sA.get j0a j0b
      have gsA := o _ _ (nl gs) (sC _ _ gs)
      have ghA := o _ _ (nl g13) (sC _ _ g13)
      have gbA := o _ _ (nl gb) (sC _ _ gb)
      have t12 := t1.trans t2
      have sd := seq_of (K := K) f2
      refine ⟨wd, rfl, _, sd, _, j0, wd, rfl, _, sd, _, j2, wd, rfl, _, sd, _, j2, wd, rfl, _, sd, _, j3, wd, rfl, _, sd, _, j4, _, e0', rfl, seq_of (t12 _ _ ghA), _, ah, by decide, New.intro fun w3 H3 m3' t3 f3 => ?_⟩
      obtain ⟨hd, ahd, hdn⟩ : ∃ hd : Int, atI (L.map V.int ++ [V.int 0]) 0 = some (.int hd) ∧ 0 ≤ hd := by
        cases L with
        | nil => exact ⟨0, rfl, by decide⟩
        | cons z r => exact ⟨z, atI_nat (j := 0) rfl, lnn z List.mem_cons_self⟩
      refine ⟨h, rfl, _, seq_of ((t12.trans t3) _ _ hh), _, seq_of f3, by rw [List.length_map]; exact sz100 (by rw [List.length_singleton]; omega), New.intro fun w4 H4 m4' t4 f4 => ⟨_, seq_of f4, _, ahd, by decide, New.intro fun w5 H5 m5' t5 f5 => ?_⟩⟩
      obtain ⟨n, an, hn⟩ : ∃ n : Int, atI [V.int e2', V.int e2', V.int e3', V.int e4', V.int hd] e1' = some (.int n) ∧ 0 ≤ n := by
        have : e1' = 0 ∨ e1' = 1 ∨ e1' = 2 ∨ e1' = 3 ∨ e1' = 4 := by omega
        rcases this with rfl | rfl | rfl | rfl | rfl
        · exact ⟨_, rfl, j2a⟩
        · exact ⟨_, rfl, j2a⟩
        · exact ⟨_, rfl, j3a⟩
        · exact ⟨_, rfl, j4a⟩
        · exact ⟨_, rfl, hdn⟩
      have t5' : Same H2 H5 := t3.trans (t4.trans t5)
      have sX : Same HA H5 := t12.trans t5'
      refine ⟨wd, rfl, _, seq_of (t5' _ _ f2), _, j1, _, e1', rfl, seq_of f5, _, an, wd, rfl, _, seq_of (t5' _ _ f2), _, j5, scal_ii, ite2 (fun _ => ?_) (fun _ => ?_)⟩
      · refine ⟨by decide, New.intro fun b1 K1 r1 t1' q1 => ⟨by decide, New.intro fun b2 K2 r2 t2' q2 => New.intro fun b3 K3 r3 t3' q3 => ⟨⟨by decide, by decide, by decide⟩, by decide, New.intro fun b4 K4 r4 t4' q4 => ?_⟩⟩⟩
        have hb1 := t4' _ _ (t3' _ _ (t2' _ _ q1))
        have hb2 := t4' _ _ (t3' _ _ q2)
        have hb3 := t4' _ _ q3
        have sK : Same HA K4 := sX.trans (t1'.trans (t2'.trans (t3'.trans t4')))
        have f2K := (t1'.trans (t2'.trans (t3'.trans t4'))) _ _ (t5' _ _ f2)
        obtain ⟨x, T, dt, ax, tx, lx, sh, y1, y2, y3⟩ : ∃ (x : V) (T : String) (dt : PyData), atI [V.int (-1), V.bl true, V.non, V.str (Str.ofString "0"), V.ref b1, V.ref b2, V.ref b3, V.int (0 - 10 ^ Int.toNat 20)] e6' = some x ∧ Th K K4 x T ∧ lineOk x = false ∧ (∀ H1, Same K4 H1 → Shw K H1 x dt) ∧ dt.showable = true ∧ dt.depth ≤ 60 ∧ dt.shown.length ≤ sizeLine := by
          have : e6' = 0 ∨ e6' = 1 ∨ e6' = 2 ∨ e6' = 3 ∨ e6' = 4 ∨ e6' = 5 ∨ e6' = 6 ∨ e6' = 7 := by omega
          rcases this with rfl | rfl | rfl | rfl | rfl | rfl | rfl | rfl
          · exact ⟨_, _, .int (-1), rfl, .int _, rfl, fun _ _ => .dp (.int _) rfl, by decide +kernel, by decide +kernel, by decide +kernel⟩
          · exact ⟨_, _, .bool true, rfl, .bl _, rfl, fun _ _ => .dp (.bl _) rfl, by decide +kernel, by decide +kernel, by decide +kernel⟩
          · exact ⟨_, _, .none, rfl, .non, rfl, fun _ _ => .dp .non rfl, by decide +kernel, by decide +kernel, by decide +kernel⟩
          · exact ⟨_, _, .str (Str.ofString "0"), rfl, .str _, rfl, fun _ _ => .dp (.str _) rfl, by decide +kernel, by decide +kernel, by decide +kernel⟩
          · exact ⟨_, _, .list [.int 0], rfl, .lst (seq_of hb1), rfl, fun _ s => .dp (.lst (seq_of (s _ _ hb1)) (.cons (.int 0) .nil)) rfl, by decide +kernel, by decide +kernel, by decide +kernel⟩
          · exact ⟨_, _, .tuple [.int 1], rfl, .tup (seqT_of hb2), rfl, fun _ s => .dp (.tup (seqT_of (s _ _ hb2)) (.cons (.int 1) .nil)) rfl, by decide +kernel, by decide +kernel, by decide +kernel⟩
          · exact ⟨_, _, .dict [], rfl, .dK hb3, rfl, fun _ s => .dk (s _ _ hb3) rfl, by decide +kernel, by decide +kernel, by decide +kernel⟩
          · exact ⟨_, _, .int (0 - 10 ^ Int.toNat 20), rfl, .int _, rfl, fun _ _ => .dp (.int _) rfl, by decide +kernel, by decide +kernel, by decide +kernel⟩
        refine ⟨wd, rfl, _, seq_of f2K, _, j6, _, e6', rfl, seq_of q4, _, ax, _, e0', rfl, seq_of (sK _ _ gsA), _, ap, p, d, B, L, x, T, dt, rfl, k.same sK, lL, lB, lB1, tx, lx, sh, y1, y2, y3, fun K5 z5 => ⟨true, rfl, iteN (by decide) ?_⟩⟩
        have sX5 : Same HA K5 := sK.trans z5
        refine ⟨_, e0', rfl, seq_of (sX5 _ _ gsA), _, ap, _, e0', rfl, seq_of (sX5 _ _ ghA), _, ah, _, e0', rfl, seq_of (sX5 _ _ gbA), _, aB, p, d, h, B, L, n, rfl, k.same sX5, sX5 _ _ hh, nhd, lL, lB, lB1, lN, hn, fun HY oy ky hy => ⟨true, rfl, iteN (by decide) ?_⟩⟩
        obtain ⟨⟨N0, N1, sN⟩, oN⟩ := up n HY hn ((OffS.same sX5).trans oy) ky hy
        have gsY := oN _ _ (nl gs) gsA
        have ghY := oN _ _ (nl g13) ghA
        exact ⟨_, seq_of gsY, _, rfl, _, seq_of ghY, _, rfl, p0, d0, h0, B0, N0, rfl, sN.k0, seq_of sN.e0, by have := sN.l0; omega, fun HZ sZ => ⟨true, rfl, iteN (by decide) ⟨_, seq_of (sZ _ _ gsY), _, rfl, _, seq_of (sZ _ _ ghY), _, rfl, p1, d1, h1, B1, N1, rfl, sN.k1.same sZ, seq_of (sZ _ _ sN.e1), by have := sN.l1; omega, fun HW sW => ⟨true, rfl, iteN (by decide) ⟨(o.trans oN).trans (OffS.same (sZ.trans sW)), N0, N1, (sN.same sZ).same sW⟩⟩⟩⟩⟩
      · skip
        refine ⟨_, e0', rfl, seq_of (sX _ _ gsA), _, ap, _, e0', rfl, seq_of (sX _ _ ghA), _, ah, _, e0', rfl, seq_of (sX _ _ gbA), _, aB, p, d, h, B, L, n, rfl, k.same sX, sX _ _ hh, nhd, lL, lB, lB1, lN, hn, fun HY oy ky hy => ⟨true, rfl, iteN (by decide) ?_⟩⟩
        obtain ⟨⟨N0, N1, sN⟩, oN⟩ := up n HY hn ((OffS.same sX).trans oy) ky hy
        have gsY := oN _ _ (nl gs) gsA
        have ghY := oN _ _ (nl g13) ghA
        exact ⟨_, seq_of gsY, _, rfl, _, seq_of ghY, _, rfl, p0, d0, h0, B0, N0, rfl, sN.k0, seq_of sN.e0, by have := sN.l0; omega, fun HZ sZ => ⟨true, rfl, iteN (by decide) ⟨_, seq_of (sZ _ _ gsY), _, rfl, _, seq_of (sZ _ _ ghY), _, rfl, p1, d1, h1, B1, N1, rfl, sN.k1.same sZ, seq_of (sZ _ _ sN.e1), by have := sN.l1; omega, fun HW sW => ⟨true, rfl, iteN (by decide) ⟨(o.trans oN).trans (OffS.same (sZ.trans sW)), N0, N1, (sN.same sZ).same sW⟩⟩⟩⟩⟩
    · rintro σ HA ⟨y5, y6, y7, y8, y9, rfl, o, _⟩
      exact q HA
end
theorem all_mk {l : PySem.W.OpenLaw} {w : World} {K : PySem.W.Frag} {h : Heap} {mg : Str → Option Value} {fa f_law_drawn f_is_whole f_is_within f_NoLine_init f_need_line f_need_bound f_Kept_init f_Kept_touch f_law_whole f_Kept_lines_kept f_law_refused f_law_touched f_law_kept f_law C_Kept C_NoLine C_RoomError : Addr} (X : K.In h) (G : h.Ns mainGlobals mg) (hfa : mg "law" = some (.ref fa))
    {od_law_drawn an_law_drawn : Option Addr} {sl_law_drawn : Array (Option Value)} {oc_law_drawn kV_law_drawn dc_law_drawn pm_law_drawn cd_law_drawn ct_law_drawn : Value}
    {od_is_whole an_is_whole : Option Addr} {sl_is_whole : Array (Option Value)} {oc_is_whole kV_is_whole dc_is_whole pm_is_whole cd_is_whole ct_is_whole : Value}
    {od_is_within an_is_within : Option Addr} {sl_is_within : Array (Option Value)} {oc_is_within kV_is_within dc_is_within pm_is_within cd_is_within ct_is_within : Value}
    {od_NoLine_init an_NoLine_init : Option Addr} {sl_NoLine_init : Array (Option Value)} {oc_NoLine_init kV_NoLine_init dc_NoLine_init pm_NoLine_init cd_NoLine_init ct_NoLine_init : Value}
    {od_need_line an_need_line : Option Addr} {sl_need_line : Array (Option Value)} {oc_need_line kV_need_line dc_need_line pm_need_line cd_need_line ct_need_line : Value}
    {od_need_bound an_need_bound : Option Addr} {sl_need_bound : Array (Option Value)} {oc_need_bound kV_need_bound dc_need_bound pm_need_bound cd_need_bound ct_need_bound : Value}
    {od_Kept_init an_Kept_init : Option Addr} {sl_Kept_init : Array (Option Value)} {oc_Kept_init kV_Kept_init dc_Kept_init pm_Kept_init cd_Kept_init ct_Kept_init : Value}
    {od_Kept_touch an_Kept_touch : Option Addr} {sl_Kept_touch : Array (Option Value)} {oc_Kept_touch kV_Kept_touch dc_Kept_touch pm_Kept_touch cd_Kept_touch ct_Kept_touch : Value}
    {od_law_whole an_law_whole : Option Addr} {sl_law_whole : Array (Option Value)} {oc_law_whole kV_law_whole dc_law_whole pm_law_whole cd_law_whole ct_law_whole : Value}
    {od_Kept_lines_kept an_Kept_lines_kept : Option Addr} {sl_Kept_lines_kept : Array (Option Value)} {oc_Kept_lines_kept kV_Kept_lines_kept dc_Kept_lines_kept pm_Kept_lines_kept cd_Kept_lines_kept ct_Kept_lines_kept : Value}
    {od_law_refused an_law_refused : Option Addr} {sl_law_refused : Array (Option Value)} {oc_law_refused kV_law_refused dc_law_refused pm_law_refused cd_law_refused ct_law_refused : Value}
    {od_law_touched an_law_touched : Option Addr} {sl_law_touched : Array (Option Value)} {oc_law_touched kV_law_touched dc_law_touched pm_law_touched cd_law_touched ct_law_touched : Value}
    {od_law_kept an_law_kept : Option Addr} {sl_law_kept : Array (Option Value)} {oc_law_kept kV_law_kept dc_law_kept pm_law_kept cd_law_kept ct_law_kept : Value}
    {od_law an_law : Option Addr} {sl_law : Array (Option Value)} {oc_law kV_law dc_law pm_law cd_law ct_law : Value}
    (aC_NoLine : PySem.W.nsIn K mainGlobals "NoLine" = some (some (.ref C_NoLine)))
    (eC_NoLine : PySem.W.subIn K (.ref C_NoLine) (.type "BaseException") = some true)
    (tC_NoLine : PySem.W.typeIn K (.ref C_NoLine) = some (.type "type"))
    (hC_NoLine : PySem.W.hasDictIn K C_NoLine = true)
    {nm_NoLine q_NoLine : Str} {N_NoLine : Addr} {bs_NoLine : List Value} {sn_NoLine : List Str} {sub_NoLine : List Value} {ab_NoLine : Bool} {col_NoLine : Option Bool} {dd_NoLine : Option Addr} {m0_NoLine m1_NoLine m2_NoLine m3_NoLine m5_NoLine : Option Value} (xL_NoLine : K.lookup C_NoLine = some (excClassObj nm_NoLine q_NoLine C_NoLine N_NoLine bs_NoLine [.ref C_RoomError, .type "ValueError", .type "Exception", .type "BaseException", .type "object"] true sn_NoLine sub_NoLine ab_NoLine col_NoLine dd_NoLine m0_NoLine m1_NoLine m2_NoLine m3_NoLine m5_NoLine "ValueError.__new__"))
    (sa_NoLine : PySem.W.findIn K (.ref C_NoLine) "__setattr__" = some (some (.builtin "object.__setattr__")))
    (ga_NoLine : PySem.W.findIn K (.ref C_NoLine) "__getattribute__" = some (some (.builtin "BaseException.__getattribute__")))
    (gg_NoLine : PySem.W.findIn K (.ref C_NoLine) "__getattr__" = some none)
    (kC_NoLine : PySem.W.keepIn K (.ref C_NoLine) = true)
    (aC_RoomError : PySem.W.nsIn K mainGlobals "RoomError" = some (some (.ref C_RoomError)))
    (eC_RoomError : PySem.W.subIn K (.ref C_RoomError) (.type "BaseException") = some true)
    (tC_RoomError : PySem.W.typeIn K (.ref C_RoomError) = some (.type "type"))
    (hC_RoomError : PySem.W.hasDictIn K C_RoomError = true)
    (rd_RoomError : PySem.W.readsIn K C_RoomError (.type "type") = true)
    (sg_RoomError : PySem.W.specialIn K (.ref C_RoomError) "__getattribute__" = some (some (.builtin "type.__getattribute__")))
    (vf_RoomError : PySem.W.findCls K (.ref C_RoomError) (.type "type") "__init__" = some (.val (.builtin "ValueError.__init__")))
    (nb_NoLine_found : PySem.W.findIn K (.ref C_NoLine) "found" = some none)
    (oc_get : PySem.W.specialIn K (.builtin "object.__class__") "__get__" = some (some (.builtin "getset_descriptor.__get__")))
    (oc_tk : PySem.W.takesIn K (.builtin "object.__class__") = some true)
    (cl_NoLine : PySem.W.findIn K (.ref C_NoLine) "__class__" = some (some (.builtin "object.__class__")))
    (mo_NoLine : PySem.W.mroIn K C_NoLine (.type "object") = some true)
    (sv_NoLine_ValueError : PySem.W.subIn K (.ref C_NoLine) (.type "ValueError") = some true)
    (su_NoLine_NoLine : PySem.W.subIn K (.ref C_NoLine) (.ref C_NoLine) = some true)
    (su_NoLine_RoomError : PySem.W.subIn K (.ref C_NoLine) (.ref C_RoomError) = some true)
    (aC_Kept : PySem.W.nsIn K mainGlobals "Kept" = some (some (.ref C_Kept)))
    (pg_Kept : PySem.W.plainGet K C_Kept Str.empty = true)
    (hd_Kept : PySem.W.hasDictIn K C_Kept = true)
    (po_Kept : PySem.W.plainOver K C_Kept = true)
    (sa_Kept : PySem.W.findIn K (.ref C_Kept) "__setattr__" = some (some (.builtin "object.__setattr__")))
    (mk_Kept : PySem.W.makesIn K C_Kept = true)
    (kc_Kept : PySem.W.keepIn K (.ref C_Kept) = true)
    (nA_Kept_bound : PySem.W.findIn K (.ref C_Kept) "bound" = some none)
    (nA_Kept_had : PySem.W.findIn K (.ref C_Kept) "had" = some none)
    (a_law_drawn : PySem.W.nsIn K mainGlobals "_law_drawn" = some (some (.ref f_law_drawn)))
    (l_law_drawn : K.lookup f_law_drawn = some ⟨oc_law_drawn, od_law_drawn, .func (PySem.W.fnOf "_law_drawn" "_law_drawn" (defArgs s_law_drawn) (defBody s_law_drawn) (defScope s_law_drawn) .none kV_law_drawn dc_law_drawn pm_law_drawn an_law_drawn cd_law_drawn ct_law_drawn), sl_law_drawn⟩)
    (c_law_drawn : PySem.W.codeIn K cd_law_drawn "_law_drawn" = true)
    (k_law_drawn : PySem.W.keepIn K (.ref f_law_drawn) = true)
    (a_is_whole : PySem.W.nsIn K mainGlobals "is_whole" = some (some (.ref f_is_whole)))
    (l_is_whole : K.lookup f_is_whole = some ⟨oc_is_whole, od_is_whole, .func (PySem.W.fnOf "is_whole" "is_whole" (defArgs s_is_whole) (defBody s_is_whole) (defScope s_is_whole) .none kV_is_whole dc_is_whole pm_is_whole an_is_whole cd_is_whole ct_is_whole), sl_is_whole⟩)
    (c_is_whole : PySem.W.codeIn K cd_is_whole "is_whole" = true)
    (k_is_whole : PySem.W.keepIn K (.ref f_is_whole) = true)
    (a_is_within : PySem.W.nsIn K mainGlobals "is_within" = some (some (.ref f_is_within)))
    (l_is_within : K.lookup f_is_within = some ⟨oc_is_within, od_is_within, .func (PySem.W.fnOf "is_within" "is_within" (defArgs s_is_within) (defBody s_is_within) (defScope s_is_within) .none kV_is_within dc_is_within pm_is_within an_is_within cd_is_within ct_is_within), sl_is_within⟩)
    (c_is_within : PySem.W.codeIn K cd_is_within "is_within" = true)
    (k_is_within : PySem.W.keepIn K (.ref f_is_within) = true)
    (a_NoLine_init : PySem.W.findIn K (.ref C_NoLine) "__init__" = some (some (.ref f_NoLine_init)))
    (t_NoLine_init : PySem.W.typeIn K (.ref f_NoLine_init) = some (.type "function"))
    (l_NoLine_init : K.lookup f_NoLine_init = some ⟨oc_NoLine_init, od_NoLine_init, .func (PySem.W.fnOf "__init__" "NoLine.__init__" (defArgs s_NoLine_init) (defBody s_NoLine_init) (defScope s_NoLine_init) .none kV_NoLine_init dc_NoLine_init pm_NoLine_init an_NoLine_init cd_NoLine_init ct_NoLine_init), sl_NoLine_init⟩)
    (c_NoLine_init : PySem.W.codeIn K cd_NoLine_init "NoLine.__init__" = true)
    (k_NoLine_init : PySem.W.keepIn K (.ref f_NoLine_init) = true)
    (a_need_line : PySem.W.nsIn K mainGlobals "need_line" = some (some (.ref f_need_line)))
    (l_need_line : K.lookup f_need_line = some ⟨oc_need_line, od_need_line, .func (PySem.W.fnOf "need_line" "need_line" (defArgs s_need_line) (defBody s_need_line) (defScope s_need_line) .none kV_need_line dc_need_line pm_need_line an_need_line cd_need_line ct_need_line), sl_need_line⟩)
    (c_need_line : PySem.W.codeIn K cd_need_line "need_line" = true)
    (k_need_line : PySem.W.keepIn K (.ref f_need_line) = true)
    (a_need_bound : PySem.W.nsIn K mainGlobals "need_bound" = some (some (.ref f_need_bound)))
    (l_need_bound : K.lookup f_need_bound = some ⟨oc_need_bound, od_need_bound, .func (PySem.W.fnOf "need_bound" "need_bound" (defArgs s_need_bound) (defBody s_need_bound) (defScope s_need_bound) .none kV_need_bound dc_need_bound pm_need_bound an_need_bound cd_need_bound ct_need_bound), sl_need_bound⟩)
    (c_need_bound : PySem.W.codeIn K cd_need_bound "need_bound" = true)
    (k_need_bound : PySem.W.keepIn K (.ref f_need_bound) = true)
    (a_Kept_init : PySem.W.findIn K (.ref C_Kept) "__init__" = some (some (.ref f_Kept_init)))
    (i_Kept_init : PySem.W.isFn K (.ref f_Kept_init) = true)
    (l_Kept_init : K.lookup f_Kept_init = some ⟨oc_Kept_init, od_Kept_init, .func (PySem.W.fnOf "__init__" "Kept.__init__" (defArgs s_Kept_init) (defBody s_Kept_init) (defScope s_Kept_init) .none kV_Kept_init dc_Kept_init pm_Kept_init an_Kept_init cd_Kept_init ct_Kept_init), sl_Kept_init⟩)
    (c_Kept_init : PySem.W.codeIn K cd_Kept_init "Kept.__init__" = true)
    (k_Kept_init : PySem.W.keepIn K (.ref f_Kept_init) = true)
    (a_Kept_touch : PySem.W.findIn K (.ref C_Kept) "touch" = some (some (.ref f_Kept_touch)))
    (i_Kept_touch : PySem.W.isFn K (.ref f_Kept_touch) = true)
    (l_Kept_touch : K.lookup f_Kept_touch = some ⟨oc_Kept_touch, od_Kept_touch, .func (PySem.W.fnOf "touch" "Kept.touch" (defArgs s_Kept_touch) (defBody s_Kept_touch) (defScope s_Kept_touch) .none kV_Kept_touch dc_Kept_touch pm_Kept_touch an_Kept_touch cd_Kept_touch ct_Kept_touch), sl_Kept_touch⟩)
    (c_Kept_touch : PySem.W.codeIn K cd_Kept_touch "Kept.touch" = true)
    (k_Kept_touch : PySem.W.keepIn K (.ref f_Kept_touch) = true)
    (a_law_whole : PySem.W.nsIn K mainGlobals "_law_whole" = some (some (.ref f_law_whole)))
    (l_law_whole : K.lookup f_law_whole = some ⟨oc_law_whole, od_law_whole, .func (PySem.W.fnOf "_law_whole" "_law_whole" (defArgs s_law_whole) (defBody s_law_whole) (defScope s_law_whole) .none kV_law_whole dc_law_whole pm_law_whole an_law_whole cd_law_whole ct_law_whole), sl_law_whole⟩)
    (c_law_whole : PySem.W.codeIn K cd_law_whole "_law_whole" = true)
    (k_law_whole : PySem.W.keepIn K (.ref f_law_whole) = true)
    (a_Kept_lines_kept : PySem.W.findIn K (.ref C_Kept) "lines_kept" = some (some (.ref f_Kept_lines_kept)))
    (i_Kept_lines_kept : PySem.W.isFn K (.ref f_Kept_lines_kept) = true)
    (l_Kept_lines_kept : K.lookup f_Kept_lines_kept = some ⟨oc_Kept_lines_kept, od_Kept_lines_kept, .func (PySem.W.fnOf "lines_kept" "Kept.lines_kept" (defArgs s_Kept_lines_kept) (defBody s_Kept_lines_kept) (defScope s_Kept_lines_kept) .none kV_Kept_lines_kept dc_Kept_lines_kept pm_Kept_lines_kept an_Kept_lines_kept cd_Kept_lines_kept ct_Kept_lines_kept), sl_Kept_lines_kept⟩)
    (c_Kept_lines_kept : PySem.W.codeIn K cd_Kept_lines_kept "Kept.lines_kept" = true)
    (k_Kept_lines_kept : PySem.W.keepIn K (.ref f_Kept_lines_kept) = true)
    (a_law_refused : PySem.W.nsIn K mainGlobals "_law_refused" = some (some (.ref f_law_refused)))
    (l_law_refused : K.lookup f_law_refused = some ⟨oc_law_refused, od_law_refused, .func (PySem.W.fnOf "_law_refused" "_law_refused" (defArgs s_law_refused) (defBody s_law_refused) (defScope s_law_refused) .none kV_law_refused dc_law_refused pm_law_refused an_law_refused cd_law_refused ct_law_refused), sl_law_refused⟩)
    (c_law_refused : PySem.W.codeIn K cd_law_refused "_law_refused" = true)
    (k_law_refused : PySem.W.keepIn K (.ref f_law_refused) = true)
    (a_law_touched : PySem.W.nsIn K mainGlobals "_law_touched" = some (some (.ref f_law_touched)))
    (l_law_touched : K.lookup f_law_touched = some ⟨oc_law_touched, od_law_touched, .func (PySem.W.fnOf "_law_touched" "_law_touched" (defArgs s_law_touched) (defBody s_law_touched) (defScope s_law_touched) .none kV_law_touched dc_law_touched pm_law_touched an_law_touched cd_law_touched ct_law_touched), sl_law_touched⟩)
    (c_law_touched : PySem.W.codeIn K cd_law_touched "_law_touched" = true)
    (k_law_touched : PySem.W.keepIn K (.ref f_law_touched) = true)
    (a_law_kept : PySem.W.nsIn K mainGlobals "_law_kept" = some (some (.ref f_law_kept)))
    (l_law_kept : K.lookup f_law_kept = some ⟨oc_law_kept, od_law_kept, .func (PySem.W.fnOf "_law_kept" "_law_kept" (defArgs s_law_kept) (defBody s_law_kept) (defScope s_law_kept) .none kV_law_kept dc_law_kept pm_law_kept an_law_kept cd_law_kept ct_law_kept), sl_law_kept⟩)
    (c_law_kept : PySem.W.codeIn K cd_law_kept "_law_kept" = true)
    (k_law_kept : PySem.W.keepIn K (.ref f_law_kept) = true)
    (a_law : PySem.W.nsIn K mainGlobals "law" = some (some (.ref f_law)))
    (l_law : K.lookup f_law = some ⟨oc_law, od_law, .func (PySem.W.fnOf "law" "law" (defArgs s_law) (defBody s_law) (defScope s_law) .none kV_law dc_law pm_law an_law cd_law ct_law), sl_law⟩)
    (c_law : PySem.W.codeIn K cd_law "law" = true)
    (k_law : PySem.W.keepIn K (.ref f_law) = true)
    (n_ValueError : PySem.W.nsIn K mainGlobals "ValueError" = some none)
    (n_bool : PySem.W.nsIn K mainGlobals "bool" = some none)
    (n_int : PySem.W.nsIn K mainGlobals "int" = some none)
    (n_isinstance : PySem.W.nsIn K mainGlobals "isinstance" = some none)
    (n_len : PySem.W.nsIn K mainGlobals "len" = some none)
    (n_list : PySem.W.nsIn K mainGlobals "list" = some none)
    (n_repr : PySem.W.nsIn K mainGlobals "repr" = some none)
    (n_tuple : PySem.W.nsIn K mainGlobals "tuple" = some none)
    {t_MOST_KEPT : Tok} (q_MOST_KEPT : PySem.W.nsIn K mainGlobals "MOST_KEPT" = some (some (.int 32 t_MOST_KEPT)))
    : ∃ fd : FuncData, (∀ (s : Shared) (v : Value), BindsTo s fd ⟨[v], []⟩ [("_law_script", v)]) ∧ ∀ base : Heap, K.In base → base.Ns mainGlobals mg → FnOkG l.prog w K mg base CX0 6 fa fd ["_law_script"] (spLaw K) := by
  have e := hfa.symm.trans (PySem.W.mg_of X G a_law)
  cases e
  have F_law_drawn := fun_mk (st := s_law_drawn) l_law_drawn c_law_drawn k_law_drawn
  have F_is_whole := fun_mk (st := s_is_whole) l_is_whole c_is_whole k_is_whole
  have F_is_within := fun_mk (st := s_is_within) l_is_within c_is_within k_is_within
  have F_NoLine_init := fun_mk (st := s_NoLine_init) l_NoLine_init c_NoLine_init k_NoLine_init
  have F_need_line := fun_mk (st := s_need_line) l_need_line c_need_line k_need_line
  have F_need_bound := fun_mk (st := s_need_bound) l_need_bound c_need_bound k_need_bound
  have F_Kept_init := fun_mk (st := s_Kept_init) l_Kept_init c_Kept_init k_Kept_init
  have F_Kept_touch := fun_mk (st := s_Kept_touch) l_Kept_touch c_Kept_touch k_Kept_touch
  have F_law_whole := fun_mk (st := s_law_whole) l_law_whole c_law_whole k_law_whole
  have F_Kept_lines_kept := fun_mk (st := s_Kept_lines_kept) l_Kept_lines_kept c_Kept_lines_kept k_Kept_lines_kept
  have F_law_refused := fun_mk (st := s_law_refused) l_law_refused c_law_refused k_law_refused
  have F_law_touched := fun_mk (st := s_law_touched) l_law_touched c_law_touched k_law_touched
  have F_law_kept := fun_mk (st := s_law_kept) l_law_kept c_law_kept k_law_kept
  have F_law := fun_mk (st := s_law) l_law c_law k_law
  have c_MOST_KEPT : ∃ t, mg "MOST_KEPT" = some (.int 32 t) := ⟨_, PySem.W.mg_of X G q_MOST_KEPT⟩
  have z_ValueError : mg "ValueError" = none := PySem.W.mg_none_of X G n_ValueError
  have z_bool : mg "bool" = none := PySem.W.mg_none_of X G n_bool
  have z_int : mg "int" = none := PySem.W.mg_none_of X G n_int
  have z_isinstance : mg "isinstance" = none := PySem.W.mg_none_of X G n_isinstance
  have z_len : mg "len" = none := PySem.W.mg_none_of X G n_len
  have z_list : mg "list" = none := PySem.W.mg_none_of X G n_list
  have z_repr : mg "repr" = none := PySem.W.mg_none_of X G n_repr
  have z_tuple : mg "tuple" = none := PySem.W.mg_none_of X G n_tuple
  have K_Kept : Cls K C_Kept := ⟨pg_Kept, hd_Kept, po_Kept, sa_Kept⟩
  have G_NoLine : mg "NoLine" = some (.ref C_NoLine) := PySem.W.mg_of X G aC_NoLine
  have O_NoLine : OexC K C_NoLine := ⟨⟨_, _, _, _, _, _, _, _, _, _, _, _, _, _, _, xL_NoLine, rfl⟩, sa_NoLine, eC_NoLine, tC_NoLine, kC_NoLine⟩
  have Y_NoLine : XfC K C_NoLine := ⟨ga_NoLine, gg_NoLine, eC_NoLine, hC_NoLine⟩
  have G_RoomError : mg "RoomError" = some (.ref C_RoomError) := PySem.W.mg_of X G aC_RoomError
  have R_RoomError : ClX.CRead K C_RoomError (.type "type") := ⟨rd_RoomError, sg_RoomError⟩
  have V_RoomError := vf_RoomError
  have B_NoLine_found := nb_NoLine_found
  have E_NoLine_RoomError : PySem.W.exmOne K (.ref C_NoLine) (.ref C_RoomError) = some true := exm_of2 eC_RoomError hC_RoomError tC_RoomError su_NoLine_RoomError
  have I_NoLine : ExcC K C_NoLine := ⟨ga_NoLine, gg_NoLine, eC_NoLine, hC_NoLine, cl_NoLine, oc_get, oc_tk, mo_NoLine⟩
  have Q_NoLine_NoLine : PySem.W.kitOne K (.ref C_NoLine) (.ref C_NoLine) = some true := kit_yes hC_NoLine tC_NoLine su_NoLine_NoLine
  have U_NoLine_ValueError : PySem.W.kitOne K (.ref C_NoLine) (.type "ValueError") = some true := kit_blt sv_NoLine_ValueError (by decide +kernel)
  have A_Kept_bound : NoAttr K C_Kept "bound" := nA_Kept_bound
  have A_Kept_had : NoAttr K C_Kept "had" := nA_Kept_had
  refine ⟨PySem.W.fnOf "law" "law" (defArgs s_law) (defBody s_law) (defScope s_law) .none kV_law dc_law pm_law an_law cd_law ct_law, fun s v => .of_eq rfl, fun base _ _ => ?_⟩
  have D_law_drawn : Dn l.prog w K mg base CX0 1 "_law_drawn" ["_law_cell", "_law_sizes"] (spDrawn K) := ⟨⟨_, _, ok_drawn F_law_drawn, PySem.W.mg_of X G a_law_drawn, k_law_drawn, F_law_drawn.binds (ps := ["_law_cell", "_law_sizes"]) fun _ _ _ _ _ _ us hl => match us, hl with | [_, _], _ => rfl⟩⟩
  have D_is_whole : Dn l.prog w K mg base CX0 1 "is_whole" ["thing"] (spIsWhole K) := ⟨⟨_, _, ok_isWhole F_is_whole z_isinstance z_int z_bool, PySem.W.mg_of X G a_is_whole, k_is_whole, F_is_whole.binds (ps := ["thing"]) fun _ _ _ _ _ _ us hl => match us, hl with | [_], _ => rfl⟩⟩
  have D_is_within : Dn l.prog w K mg base CX0 2 "is_within" ["thing", "low", "high"] (spIsWithin K) := ⟨⟨_, _, ok_isWithin F_is_within D_is_whole, PySem.W.mg_of X G a_is_within, k_is_within, F_is_within.binds (ps := ["thing", "low", "high"]) fun _ _ _ _ _ _ us hl => match us, hl with | [_, _, _], _ => rfl⟩⟩
  have X_NoLine : Xn l.prog w K mg base 1 C_NoLine "NoLine" ["self", "found"] (spX C_NoLine ["found"]) := ⟨⟨O_NoLine, Y_NoLine⟩, ⟨_, _, a_NoLine_init, t_NoLine_init, ok_NoLine F_NoLine_init O_NoLine G_RoomError R_RoomError V_RoomError B_NoLine_found, G_NoLine, F_NoLine_init.binds (ps := ["self", "found"]) fun _ _ _ _ _ _ us hl => match us, hl with | [_, _], _ => rfl⟩⟩
  have D_need_line : Dn l.prog w K mg base (L2.CX l.prog w) 3 "need_line" ["line"] (spNeedLine K C_NoLine) := ⟨⟨_, _, ok_needLine F_need_line D_is_whole X_NoLine, PySem.W.mg_of X G a_need_line, k_need_line, F_need_line.binds (ps := ["line"]) fun _ _ _ _ _ _ us hl => match us, hl with | [_], _ => rfl⟩⟩
  have D_need_bound : Dn l.prog w K mg base CX0 3 "need_bound" ["most"] spNeedBound := ⟨⟨_, _, ok_needBound F_need_bound c_MOST_KEPT D_is_within, PySem.W.mg_of X G a_need_bound, k_need_bound, F_need_bound.binds (ps := ["most"]) fun _ _ _ _ _ _ us hl => match us, hl with | [_], _ => rfl⟩⟩
  have M_Kept : Mn l.prog w K mg base CX0 4 C_Kept "Kept" ["self", "most"] (spKInit C_Kept) := ⟨⟨_, _, ⟨mk_Kept, a_Kept_init, i_Kept_init, kc_Kept⟩, ok_kInit F_Kept_init K_Kept A_Kept_bound A_Kept_had D_need_bound, PySem.W.mg_of X G aC_Kept, F_Kept_init.binds (ps := ["self", "most"]) fun _ _ _ _ _ _ us hl => match us, hl with | [_, _], _ => rfl⟩⟩
  have N_Kept_touch : Nn l.prog w K mg base (L2.CX l.prog w) 4 C_Kept "touch" ["self", "line"] (spTouch K C_Kept C_NoLine) := ⟨K_Kept, ⟨_, _, ⟨a_Kept_touch, i_Kept_touch, k_Kept_touch⟩, ok_touch F_Kept_touch z_len K_Kept A_Kept_bound A_Kept_had D_need_line, F_Kept_touch.binds (ps := ["self", "line"]) fun _ _ _ _ _ _ us hl => match us, hl with | [_, _], _ => rfl⟩⟩
  have D_law_whole : Dn l.prog w K mg base CX0 1 "_law_whole" ["_law_found"] (spLWhole K) := ⟨⟨_, _, ok_lwhole F_law_whole z_isinstance z_int z_bool, PySem.W.mg_of X G a_law_whole, k_law_whole, F_law_whole.binds (ps := ["_law_found"]) fun _ _ _ _ _ _ us hl => match us, hl with | [_], _ => rfl⟩⟩
  have N_Kept_lines_kept : Nn l.prog w K mg base CX0 1 C_Kept "lines_kept" ["self"] (spKeptL C_Kept) := ⟨K_Kept, ⟨_, _, ⟨a_Kept_lines_kept, i_Kept_lines_kept, k_Kept_lines_kept⟩, ok_keptL F_Kept_lines_kept z_list K_Kept A_Kept_had, F_Kept_lines_kept.binds (ps := ["self"]) fun _ _ _ _ _ _ us hl => match us, hl with | [_], _ => rfl⟩⟩
  have D_law_refused : DnG l.prog w K mg base CX0 5 "_law_refused" ["_law_store", "_law_thing"] (spRefused K C_Kept) := ⟨⟨_, _, ok_refused F_law_refused z_isinstance z_repr z_ValueError G_RoomError G_NoLine Y_NoLine I_NoLine B_NoLine_found E_NoLine_RoomError Q_NoLine_NoLine U_NoLine_ValueError N_Kept_touch, PySem.W.mg_of X G a_law_refused, k_law_refused, F_law_refused.binds (ps := ["_law_store", "_law_thing"]) fun _ _ _ _ _ _ us hl => match us, hl with | [_, _], _ => rfl⟩⟩
  have D_law_touched : Dn l.prog w K mg base CX0 5 "_law_touched" ["_law_store", "_law_had", "_law_bound", "_law_line"] (spTouched K C_Kept) := ⟨⟨_, _, ok_touched F_law_touched z_len z_isinstance z_tuple z_bool D_law_whole N_Kept_touch, PySem.W.mg_of X G a_law_touched, k_law_touched, F_law_touched.binds (ps := ["_law_store", "_law_had", "_law_bound", "_law_line"]) fun _ _ _ _ _ _ us hl => match us, hl with | [_, _, _, _], _ => rfl⟩⟩
  have D_law_kept : Dn l.prog w K mg base CX0 2 "_law_kept" ["_law_store", "_law_had"] (spLKept K C_Kept) := ⟨⟨_, _, ok_lkept F_law_kept z_isinstance z_list D_law_whole N_Kept_lines_kept, PySem.W.mg_of X G a_law_kept, k_law_kept, F_law_kept.binds (ps := ["_law_store", "_law_had"]) fun _ _ _ _ _ _ us hl => match us, hl with | [_, _], _ => rfl⟩⟩
  exact ok_law F_law z_len D_law_drawn M_Kept D_law_kept D_law_refused D_law_touched
end K48
open PySem PySem.W PyProof.Rows
set_option maxHeartbeats 0 in
theorem PySem.Challenge.cw_roomslaid_k48_kept_touch_by_touch_holds : PySem.Challenge.rw_roomslaid_k48_kept_touch_by_touch.Holds := by
  w_on; o_law; k_head; (case hw => w_witness2)
  k_fill
  refine Rg.walk_ofG (l := PySem.Challenge.rw_roomslaid_k48_kept_touch_by_touch) (n := 63) (k := 6) (x := "_law_script") (CX := fun _ => L2.CX0) (sp := fun w => K48.spLaw _) rfl (by decide) rfl ⟨rfl, by decide, by decide⟩ (fun w h Y => PySem.W.kIn_of Y) ?F (fun _ _ a ns hl _ hS => ⟨a, ns, rfl, hS, hl, fun _ => rfl⟩) (fun _ _ _ _ _ h => h)
  case F =>
    intro w mg fa h KX G hmg
    refine' K48.all_mk KX G hmg ?aC_NoLine ?eC_NoLine ?tC_NoLine ?hC_NoLine ?xL_NoLine ?sa_NoLine ?ga_NoLine ?gg_NoLine ?kC_NoLine ?aC_RoomError ?eC_RoomError ?tC_RoomError ?hC_RoomError ?rd_RoomError ?sg_RoomError ?vf_RoomError ?nb_NoLine_found ?oc_get ?oc_tk ?cl_NoLine ?mo_NoLine ?sv_NoLine_ValueError ?su_NoLine_NoLine ?su_NoLine_RoomError ?aC_Kept ?pg_Kept ?hd_Kept ?po_Kept ?sa_Kept ?mk_Kept ?kc_Kept ?nA_Kept_bound ?nA_Kept_had ?a_law_drawn ?l_law_drawn ?c_law_drawn ?k_law_drawn ?a_is_whole ?l_is_whole ?c_is_whole ?k_is_whole ?a_is_within ?l_is_within ?c_is_within ?k_is_within ?a_NoLine_init ?t_NoLine_init ?l_NoLine_init ?c_NoLine_init ?k_NoLine_init ?a_need_line ?l_need_line ?c_need_line ?k_need_line ?a_need_bound ?l_need_bound ?c_need_bound ?k_need_bound ?a_Kept_init ?i_Kept_init ?l_Kept_init ?c_Kept_init ?k_Kept_init ?a_Kept_touch ?i_Kept_touch ?l_Kept_touch ?c_Kept_touch ?k_Kept_touch ?a_law_whole ?l_law_whole ?c_law_whole ?k_law_whole ?a_Kept_lines_kept ?i_Kept_lines_kept ?l_Kept_lines_kept ?c_Kept_lines_kept ?k_Kept_lines_kept ?a_law_refused ?l_law_refused ?c_law_refused ?k_law_refused ?a_law_touched ?l_law_touched ?c_law_touched ?k_law_touched ?a_law_kept ?l_law_kept ?c_law_kept ?k_law_kept ?a_law ?l_law ?c_law ?k_law ?n_ValueError ?n_bool ?n_int ?n_isinstance ?n_len ?n_list ?n_repr ?n_tuple ?q_MOST_KEPT
    (case aC_NoLine => k_is)
    (case eC_NoLine => k_is)
    (case tC_NoLine => k_is)
    (case hC_NoLine => k_is)
    (case xL_NoLine => k_is)
    (case sa_NoLine => k_is)
    (case ga_NoLine => k_is)
    (case gg_NoLine => k_is)
    (case kC_NoLine => k_is)
    (case aC_RoomError => k_is)
    (case eC_RoomError => k_is)
    (case tC_RoomError => k_is)
    (case hC_RoomError => k_is)
    (case rd_RoomError => k_is)
    (case sg_RoomError => k_is)
    (case vf_RoomError => k_is)
    (case nb_NoLine_found => k_is)
    (case oc_get => k_is)
    (case oc_tk => k_is)
    (case cl_NoLine => k_is)
    (case mo_NoLine => k_is)
    (case sv_NoLine_ValueError => k_is)
    (case su_NoLine_NoLine => k_is)
    (case su_NoLine_RoomError => k_is)
    (case aC_Kept => k_is)
    (case pg_Kept => k_is)
    (case hd_Kept => k_is)
    (case po_Kept => k_is)
    (case sa_Kept => k_is)
    (case mk_Kept => k_is)
    (case kc_Kept => k_is)
    (case nA_Kept_bound => k_is)
    (case nA_Kept_had => k_is)
    (case a_law_drawn => k_is)
    (case l_law_drawn => k_is)
    (case c_law_drawn => k_is)
    (case k_law_drawn => k_is)
    (case a_is_whole => k_is)
    (case l_is_whole => k_is)
    (case c_is_whole => k_is)
    (case k_is_whole => k_is)
    (case a_is_within => k_is)
    (case l_is_within => k_is)
    (case c_is_within => k_is)
    (case k_is_within => k_is)
    (case a_NoLine_init => k_is)
    (case t_NoLine_init => k_is)
    (case l_NoLine_init => k_is)
    (case c_NoLine_init => k_is)
    (case k_NoLine_init => k_is)
    (case a_need_line => k_is)
    (case l_need_line => k_is)
    (case c_need_line => k_is)
    (case k_need_line => k_is)
    (case a_need_bound => k_is)
    (case l_need_bound => k_is)
    (case c_need_bound => k_is)
    (case k_need_bound => k_is)
    (case a_Kept_init => k_is)
    (case i_Kept_init => k_is)
    (case l_Kept_init => k_is)
    (case c_Kept_init => k_is)
    (case k_Kept_init => k_is)
    (case a_Kept_touch => k_is)
    (case i_Kept_touch => k_is)
    (case l_Kept_touch => k_is)
    (case c_Kept_touch => k_is)
    (case k_Kept_touch => k_is)
    (case a_law_whole => k_is)
    (case l_law_whole => k_is)
    (case c_law_whole => k_is)
    (case k_law_whole => k_is)
    (case a_Kept_lines_kept => k_is)
    (case i_Kept_lines_kept => k_is)
    (case l_Kept_lines_kept => k_is)
    (case c_Kept_lines_kept => k_is)
    (case k_Kept_lines_kept => k_is)
    (case a_law_refused => k_is)
    (case l_law_refused => k_is)
    (case c_law_refused => k_is)
    (case k_law_refused => k_is)
    (case a_law_touched => k_is)
    (case l_law_touched => k_is)
    (case c_law_touched => k_is)
    (case k_law_touched => k_is)
    (case a_law_kept => k_is)
    (case l_law_kept => k_is)
    (case c_law_kept => k_is)
    (case k_law_kept => k_is)
    (case a_law => k_is)
    (case l_law => k_is)
    (case c_law => k_is)
    (case k_law => k_is)
    (case n_ValueError => k_is)
    (case n_bool => k_is)
    (case n_int => k_is)
    (case n_isinstance => k_is)
    (case n_len => k_is)
    (case n_list => k_is)
    (case n_repr => k_is)
    (case n_tuple => k_is)
    (case q_MOST_KEPT => k_is)