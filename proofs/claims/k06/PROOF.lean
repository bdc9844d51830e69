import PyProof.Rows.All
import Wide.All
import OpenK.AllK
import Wide.FinOn
import HandS.ForMost
import HandS.NoneIn
import HandS.IsInst
import HandS.Wide
import HandS.WideBits
import HandS.More
import HandS.SetFor
import PyProof.LongRange
import HandS.Zip
import HandS.Style
import HandS.Text
import HandS.Exc
import HandS.TryOnly
import HandS.TryMany
import HandS.ExcOwn
import HandS.WordsExc
import HandS.ExcInit
import HandS.ExcField
import HandS.ClsMeth
import HandS.ExcIs
import HandS.Codes
import HandS.StrMore
import PyProof.ReprRoads
import HandS.RaiseMore
import HandS.DeepEq
import KE.KExcIs
import PySem.Challenge.RW_roomslaid_k06_refused_everywhere
set_option Elab.async false
set_option linter.all false
set_option maxRecDepth 100000
set_option maxHeartbeats 4000000
/-! my base: short calls, heaps, readings by simp -/
namespace Rb
open PySem PySem.Spec PyProof.Rows L2

/-! ### a def of the text with its promise -/
structure Dn (P : Program) (w : World) (K : PySem.W.Frag) (mg : Str → Option Value) (base : Heap) (CX : CXT) (k : Nat) (x : Str) (ps : List Str) (sp : Sp) : Prop where
  ex : ∃ f fd, FnOk P w K mg base CX k f fd ps sp ∧ mg x = some (.ref f) ∧ PySem.W.keepIn K (.ref f) = true ∧ Binds K fd ps []
section
variable {X : Cx} {CX : CXT} {k : Nat} {ps : List Str} {sp : Sp} {E : XK} {x : Str} {p pos : Pos} {e : Expr} {es : List Expr} {t : TA}
theorem pe_cd (D : Dn X.prog X.w X.K X.mg X.base CX k x ps sp) (hr : Room k X.A) (hg : Gl X x) (hx : Passes CX X E) (ha : PA X (e :: es) t)
    (hdb : (x == ("__debug__" : Str)) = false := by decide) (he : starEach (e :: es) X.env = (false, eval e X.env) :: starEach es X.env := by rfl) (hpl : (backTo pos (starEach es X.env)).any (·.1) = false := by rfl) :
    PE X (.Call (.Name x p) (e :: es) [] pos) (tCall sp [] E t) := by
  obtain ⟨f, fd, F, m, kp, b⟩ := D.ex
  exact pe_call F hr hg m kp b .nil hx ha hdb he hpl
theorem pe_cd0 (D : Dn X.prog X.w X.K X.mg X.base CX k x ps sp) (hr : Room k X.A) (hg : Gl X x) (hx : Passes CX X E)
    (hdb : (x == ("__debug__" : Str)) = false := by decide) : PE X (.Call (.Name x p) [] [] pos) (tCall sp [] E tNil) := by
  obtain ⟨f, fd, F, m, kp, b⟩ := D.ex
  exact pe_call0 F hr hg m kp b .nil hx hdb
end

/-! ### heaps -/
/-- all but a is as it was -/
def Off (a : Addr) (H H' : Hp) : Prop := ∀ b o, b ≠ a → H b = some o → H' b = some o
theorem Off.refl {a : Addr} (H : Hp) : Off a H H := fun _ _ _ h => h
theorem Off.trans {a : Addr} {H H1 H2 : Hp} (p : Off a H H1) (q : Off a H1 H2) : Off a H H2 := fun b o n h => q b o n (p b o n h)
theorem Off.of {a : Addr} {H H' : Hp} (s : Same H H') : Off a H H' := fun b o _ h => s b o h
theorem Off.upd {a : Addr} {H : Hp} {o : HO} : Off a H (upd H a o) := fun b u n h => by rw [upd_ne n]; exact h
theorem Off.at {a b : Addr} {H H' : Hp} {o u : HO} (f : Off a H H') (h : H b = some o) (ha : H a = some u) (ne : o ≠ u) : H' b = some o := f b o (ne_of h ha ne) h
theorem same_new {H : Hp} {p : Addr} {o : HO} (h : H p = none) : Same H (upd H p o) := fun b u e => by rw [upd_ne (ne_of_none e h)]; exact e
/-- a new object: its place, the heap from then on -/
theorem new_intro {H : Hp} {o : HO} {Q : VK} (h : ∀ p H1, H p = none → Same H H1 → H1 p = some o → Q (.ref p) H1) : ∀ p, H p = none → Q (.ref p) (upd H p o) := fun p hp => h p _ hp (same_new hp) upd_same
theorem Same.rd {H H' : Hp} {a : Addr} {u : HO} (s : Same H H') (h : Rd H a u) : Rd H' a u := by
  rcases h with h | ⟨o, h⟩
  · exact .inl (s _ _ h)
  · exact .inr ⟨o, s _ _ h⟩
theorem Same.seqT {K : PySem.W.Frag} {H H' : Hp} {a : Addr} {xs : List V} (e : Same H H') (h : SqT K H a xs) : SqT K H' a xs := by
  rcases h with h | h
  · exact .inl (Same.rd e h)
  · exact .inr h
theorem seq_of {K : PySem.W.Frag} {H : Hp} {a : Addr} {xs : List V} (h : H a = some (.lst xs)) : SqL K H a xs := .inl (.inl h)
theorem seqT_of {K : PySem.W.Frag} {H : Hp} {a : Addr} {xs : List V} (h : H a = some (.tup xs)) : SqT K H a xs := .inl (.inl h)
theorem Off.seq {K : PySem.W.Frag} {a b : Addr} {H H' : Hp} {xs ys : List V} (f : Off a H H') (h : SqL K H b xs) (ha : H a = some (.lst ys)) (hb : b ≠ a) : SqL K H' b xs := by
  rcases h with (h | ⟨o, h⟩) | h
  · exact .inl (.inl (f _ _ hb h))
  · exact .inl (.inr ⟨o, f _ _ hb h⟩)
  · exact .inr h
theorem Off.frz {a b : Addr} {H H' : Hp} {o : Obj} {u : HO} {ys : List V} (f : Off a H H') (h : H b = some (.frz o u)) (ha : H a = some (.lst ys)) : H' b = some (.frz o u) := f.at h ha (by intro z; cases z)
/-- made since H, changed as one likes -/
theorem Same.mut {H H' : Hp} {p : Addr} {o : HO} (s : Same H H') (h : H p = none) : Same H (upd H' p o) := fun b u e => by rw [upd_ne (ne_of_none e h)]; exact s b u e
theorem Same.off {a : Addr} {H H1 H2 : Hp} (s : Same H H1) (h : H a = none) (f : Off a H1 H2) : Same H H2 := fun b u e => f b u (ne_of_none e h) (s b u e)
theorem none_back {H H' : Hp} {p : Addr} (s : Same H H') (h : H' p = none) : H p = none := s.free h
theorem Off.none {a p : Addr} {H H' : Hp} {u : HO} (f : Off a H H') (ha : H a = some u) (ha' : H' p = Option.none) (h' : ∃ o, H' a = some o) : H p = Option.none := by
  cases q : H p with
  | none => rfl
  | some o =>
    by_cases e : p = a
    · subst e
      obtain ⟨o', h'⟩ := h'
      rw [h'] at ha'; cases ha'
    · rw [f p o e q] at ha'; cases ha'
/-! ### what comes new, what is changed: told by letters -/
def New (H : Hp) (o : HO) (R : Addr → Hp → Prop) : Prop := ∀ p, H p = none → R p (upd H p o)
theorem New.intro {H : Hp} {o : HO} {R : Addr → Hp → Prop} (h : ∀ p H2, H p = none → Same H H2 → H2 p = some o → R p H2) : New H o R := fun p hp => h p _ hp (same_new hp) upd_same
def Upd (H : Hp) (a : Addr) (o : HO) (R : Hp → Prop) : Prop := R (upd H a o)
theorem Upd.intro {H : Hp} {a : Addr} {o : HO} {R : Hp → Prop} (h : ∀ H2, Off a H H2 → H2 a = some o → R H2) : Upd H a o R := h _ Off.upd upd_same
def Loop (J : It) (g : TG) (tb : TS) (D : Ends) (σ : L2.St) (H : Hp) : Prop := ∃ W : Nat → Nat → L2.St → Hp → Prop, (∃ m, W 0 m σ H) ∧ ∀ i m σ H, W i m σ H →
  (J.stop i H ∧ D.nx σ H) ∨ (J.go i H ∧ ∃ N : L2.St → Hp → Prop, (∀ σ' H', N σ' H' → ∃ m', m' < m ∧ W (i + 1) m' σ' H') ∧ ∀ x H', J.yld i H x H' → g x σ H' fun σ2 H2 => tb { D with nx := N, ct := N, bk := D.nx } σ2 H2)
def Cmp (J : It) (g : TG) (tt : TT) (te : TE) (vs : List Nat) (σ : L2.St) (H1 : Hp) (Q : VK) : Prop := ∀ D, H1 D = none → ∃ W : Nat → Nat → Hp → Prop, (∃ m, W 0 m (upd H1 D (.lst []))) ∧ ∀ i m H, W i m H →
  (J.stop i H ∧ Q (.ref D) H) ∨ (J.go i H ∧ ∃ Nx : Hp → Prop, (∀ H', Nx H' → ∃ m', m' < m ∧ W (i + 1) m' H') ∧ ∀ x H', J.yld i H x H' → g x (wipe σ vs) H' fun σ2 H2 => wipe σ2 vs = wipe σ vs ∧ tt σ2 H2 fun b H3 =>
    if b = true then te σ2 H3 fun y H4 => ∃ acc, H4 D = some (.lst acc) ∧ acc.length < sizeLine ∧ Nx (upd H4 D (.lst (acc ++ [y]))) else Nx H3)
theorem tTup_n {t : TA} : tTup t = fun σ H Q => t σ H fun xs H1 => xs.length ≤ sizeLine ∧ New H1 (.tup xs) fun p H2 => Q (.ref p) H2 := rfl
theorem tLst_n {t : TA} : tLst t = fun σ H Q => t σ H fun xs H1 => xs.length ≤ sizeLine ∧ New H1 (.lst xs) fun p H2 => Q (.ref p) H2 := rfl
theorem rSlL_n {K : PySem.W.Frag} : rSlL K = fun x lo hi H Q => ∃ a xs, x = .ref a ∧ SqL K H a xs ∧ New H (.lst (cutV xs lo hi)) fun p H2 => Q (.ref p) H2 := rfl
theorem rAppend_n : rAppend = fun x vs H Q => ∃ l xs y, x = .ref l ∧ vs = [y] ∧ H l = some (.lst xs) ∧ xs.length < sizeLine ∧ Upd H l (.lst (xs ++ [y])) fun H2 => Q .non H2 := rfl
theorem rExtend_n : rExtend = fun x vs H Q => ∃ l b xs zs, x = .ref l ∧ vs = [.ref b] ∧ H l = some (.lst xs) ∧ H b = some (.lst zs) ∧ xs.length + zs.length ≤ sizeLine ∧ Upd H l (.lst (xs ++ zs)) fun H2 => Q .non H2 := rfl
theorem rPop_n : rPop = fun x vs H Q => ∃ l xs y, x = .ref l ∧ vs = [] ∧ H l = some (.lst xs) ∧ xs[xs.length - 1]? = some y ∧ Upd H l (.lst xs.dropLast) fun H2 => Q y H2 := rfl
theorem rClear_n : rClear = fun x vs H Q => ∃ l xs, x = .ref l ∧ vs = [] ∧ H l = some (.lst xs) ∧ Upd H l (.lst []) fun H2 => Q .non H2 := rfl
theorem rSetL_n : rSetL = fun o i v H Q => ∃ p xs k j, o = .ref p ∧ i = .int k ∧ H p = some (.lst xs) ∧ ixN xs.length k = some j ∧ Upd H p (.lst (xs.set j v)) fun H2 => Q H2 := rfl
theorem tFor_n {wi : TI} {g : TG} {tb : TS} : tFor wi g tb = fun D σ H => wi σ H fun J H1 => Loop J g tb D σ H1 := rfl
theorem tLc_n {wi : TI} {g : TG} {tt : TT} {te : TE} {vs : List Nat} : tLc wi g tt te vs = fun σ H Q => wi σ H fun J H1 => Cmp J g tt te vs σ H1 Q := rfl
/-! built-ins, by letters -/
def rDivmod : List V → Hp → VK → Prop := fun xs H Q => ∃ i j, xs = [.int i, .int j] ∧ CDiv i j ∧ New H (.tup [.int (i / j), .int (i % j)]) fun p H2 => Q (.ref p) H2
theorem call_divmodR {X : Cx} : CallR X (.builtin "divmod") rDivmod := call_divmod
def rListOf (K : PySem.W.Frag) : List V → Hp → VK → Prop := fun xs H Q => ∃ p ys, xs = [.ref p] ∧ (SqL K H p ys ∨ SqT K H p ys) ∧ New H (.lst ys) fun l H2 => Q (.ref l) H2
theorem call_listR {X : Cx} {K : PySem.W.Frag} (h : X.K = K := by rfl) : CallR X (.type "list") (rListOf K) := by subst h; exact call_list_of
def rTupOf (K : PySem.W.Frag) : List V → Hp → VK → Prop := fun xs H Q => ∃ p ys, xs = [.ref p] ∧ ((SqL K H p ys ∧ New H (.tup ys) fun l H2 => Q (.ref l) H2) ∨ (SqT K H p ys ∧ Q (.ref p) H))
theorem call_tupR {X : Cx} {K : PySem.W.Frag} (h : X.K = K := by rfl) : CallR X (.type "tuple") (rTupOf K) := by subst h; exact call_tuple_of
def rLenSeq (K : PySem.W.Frag) : List V → Hp → VK → Prop := fun xs H Q => ∃ p ys, xs = [.ref p] ∧ (SqL K H p ys ∨ SqT K H p ys) ∧ Q (.int ys.length) H
theorem call_lenR {X : Cx} {K : PySem.W.Frag} (h : X.K = K := by rfl) : CallR X (.builtin "len") (rLenSeq K) := by subst h; exact call_len_seq
def rMin2 : List V → Hp → VK → Prop := fun xs H Q => ∃ i j, xs = [.int i, .int j] ∧ Q (.int (if j < i then j else i)) H
def rMax2 : List V → Hp → VK → Prop := fun xs H Q => ∃ i j, xs = [.int i, .int j] ∧ Q (.int (if j > i then j else i)) H
theorem call_min2R {X : Cx} (hc : X.calm = true) : CallR X (.builtin "min") rMin2 := call_min2 hc
theorem call_max2R {X : Cx} (hc : X.calm = true) : CallR X (.builtin "max") rMax2 := call_max2 hc

theorem snocI {α : Type} {P : List α → Prop} (h0 : P []) (h1 : ∀ xs x, P xs → P (xs ++ [x])) (l : List α) : P l := by
  have h : ∀ r : List α, P r.reverse := fun r => by
    induction r with
    | nil => exact h0
    | cons x r ih =>
      rw [List.reverse_cons]
      exact h1 _ _ ih
  rw [← List.reverse_reverse l]
  exact h _
/-! ### kinds of things -/
def kinds : List String := ["NoneType", "bool", "int", "str", "list", "tuple", "dict"]
def kindIs (T U : String) : Bool := T == U || (T == "bool" && U == "int")
theorem kd_all : ∀ T ∈ kinds, ∀ U ∈ ["bool", "int", "str", "list", "tuple", "dict"], kitB T U = some (kindIs T U) := by decide +kernel
def Thg (K : PySem.W.Frag) (H : Hp) (x : V) (T : String) : Prop := TyX K H x (.type T) ∧ T ∈ kinds
def isWh : V → Bool
  | .int _ => true
  | _ => false
theorem isi {K : PySem.W.Frag} {H : Hp} {x : V} {T U : String} {b : Bool} {R : Bool → Prop} (ty : TyX K H x (.type T)) (h : kitB T U = some b) (q : R b) : ∃ (t u : Value), ClsV (.ty U) u ∧ TyX K H x t ∧ ∃ b', PySem.W.kitOne K t u = some b' ∧ R b' :=
  ⟨_, _, .ty U, ty, b, kit_ty h, q⟩
/-- isinstance of any thing -/
theorem isiT {K : PySem.W.Frag} {H : Hp} {x : V} {T U : String} {R : Bool → Prop} (t : Thg K H x T) (hU : U ∈ ["bool", "int", "str", "list", "tuple", "dict"]) (q : R (kindIs T U)) : ∃ (t u : Value), ClsV (.ty U) u ∧ TyX K H x t ∧ ∃ b', PySem.W.kitOne K t u = some b' ∧ R b' :=
  isi t.1 (kd_all T t.2 U hU) q
theorem thg_int {K : PySem.W.Frag} {H : Hp} {i : Int} : Thg K H (.int i) "int" := ⟨.base (.int i), by decide⟩
theorem thg_bl {K : PySem.W.Frag} {H : Hp} {b : Bool} : Thg K H (.bl b) "bool" := ⟨.base (.bl b), by decide⟩
theorem thg_non {K : PySem.W.Frag} {H : Hp} : Thg K H .non "NoneType" := ⟨.base .non, by decide⟩
theorem thg_str {K : PySem.W.Frag} {H : Hp} {z : Str} : Thg K H (.str z) "str" := ⟨.base (.str z), by decide⟩
theorem thg_lst {K : PySem.W.Frag} {H : Hp} {a : Addr} {xs : List V} (h : H a = some (.lst xs)) : Thg K H (.ref a) "list" := ⟨.base (.lst h), by decide⟩
theorem thg_dK {K : PySem.W.Frag} {H : Hp} {a : Addr} {xs : List (Key × V)} (h : H a = some (.dK xs)) : Thg K H (.ref a) "dict" := ⟨.base (.dK h), by decide⟩
theorem thg_tup {K : PySem.W.Frag} {H : Hp} {a : Addr} {xs : List V} (h : SqT K H a xs) : Thg K H (.ref a) "tuple" := by
  refine ⟨?_, by decide⟩
  rcases h with (h | ⟨o, h⟩) | ⟨o, _, _, h, hc, _⟩
  · exact .base (.tup h)
  · exact .fTuple h
  · exact .kTuple h hc
theorem thg_seq {K : PySem.W.Frag} {H : Hp} {a : Addr} {xs : List V} (h : SqL K H a xs) : Thg K H (.ref a) "list" := by
  refine ⟨?_, by decide⟩
  rcases h with (h | ⟨o, h⟩) | ⟨o, _, _, h, hc, _⟩
  · exact .base (.lst h)
  · exact .base (.frz h)
  · exact .kList h hc
/-- whole numbers and no others are of the kind int alone -/
theorem isWh_of {K : PySem.W.Frag} {H : Hp} {x : V} {T : String} (t : Thg K H x T) : (kindIs T "int" && !kindIs T "bool") = isWh x := by
  obtain ⟨ty, hT⟩ := t
  generalize hc : Value.type T = c at ty
  cases ty with
  | base b =>
    cases b with
    | ins e cl ha hn htk hm => cases hc
    | _ => cases hc; rfl
  | byt b =>
    cases hc
    exact absurd hT (by decide)
  | set e =>
    cases hc
    exact absurd hT (by decide)
  | kList e c => cases hc; rfl
  | kTuple e c => cases hc; rfl
  | kDict e c => cases hc; rfl
  | fTuple e => cases hc; rfl
  | fDict e => cases hc; rfl
/-! ### constants of the module -/
theorem pe_gi {X : Cx} {x : Str} {v : Int} {pos : Pos} (hg : Gl X x) (hm : ∃ t, X.mg x = some (.int v t)) (hd : (x == ("__debug__" : Str)) = false := by decide) : PE X (.Name x pos) (tC (.int v)) := by
  obtain ⟨t, hm⟩ := hm
  exact pe_glob hg hm ⟨t, rfl⟩ hd
theorem pe_gs {X : Cx} {x v : Str} {pos : Pos} (hg : Gl X x) (hm : ∃ t, X.mg x = some (.str v t)) (hd : (x == ("__debug__" : Str)) = false := by decide) : PE X (.Name x pos) (tC (.str v)) := by
  obtain ⟨t, hm⟩ := hm
  exact pe_glob hg hm ⟨t, rfl⟩ hd
/-! ### tuples in a list -/
def Tups (K : PySem.W.Frag) (H : Hp) : List V → List (List V) → Prop := Paired fun x d => ∃ a, x = .ref a ∧ SqT K H a d
theorem Tups.same {K : PySem.W.Frag} {H H' : Hp} {xs : List V} {ds : List (List V)} (t : Tups K H xs ds) (s : Same H H') : Tups K H' xs ds := Paired.mapP t fun x d ⟨a, e, h⟩ => ⟨a, e, Same.seqT s h⟩
theorem Tups.get {K : PySem.W.Frag} {H : Hp} : ∀ {xs : List V} {ds : List (List V)} {i : Nat} {x : V}, Tups K H xs ds → xs[i]? = some x → ∃ a d, ds[i]? = some d ∧ x = .ref a ∧ SqT K H a d
  | _, _, _, _, .nil, e => by simp at e
  | _, _, 0, _, .cons ⟨a, e1, h⟩ _, e => by
    cases e
    exact ⟨a, _, rfl, e1, h⟩
  | _, _, i + 1, x, .cons _ t, e => Tups.get (i := i) t (by simpa using e)
theorem Tups.append {K : PySem.W.Frag} {H : Hp} : ∀ {xs ys : List V} {ds es : List (List V)}, Tups K H xs ds → Tups K H ys es → Tups K H (xs ++ ys) (ds ++ es)
  | _, _, _, _, .nil, s => s
  | _, _, _, _, .cons r t, s => .cons r (Tups.append t s)
theorem Tups.take {K : PySem.W.Frag} {H : Hp} : ∀ {xs : List V} {ds : List (List V)} (n : Nat), Tups K H xs ds → Tups K H (xs.take n) (ds.take n)
  | _, _, 0, _ => .nil
  | _, _, _ + 1, .nil => .nil
  | _, _, n + 1, .cons r t => .cons r (Tups.take n t)
theorem Tups.len {K : PySem.W.Frag} {H : Hp} {xs : List V} {ds : List (List V)} (t : Tups K H xs ds) : xs.length = ds.length := Paired.length t
theorem SqT.off {K : PySem.W.Frag} {H H' : Hp} {D a : Addr} {xs ys : List V} (f : Off D H H') (hD : H D = some (.lst ys)) (h : SqT K H a xs) : SqT K H' a xs := by
  rcases h with (h | ⟨o, h⟩) | h
  · exact .inl (.inl (f.at h hD (by intro z; cases z)))
  · exact .inl (.inr ⟨o, f.at h hD (by intro z; cases z)⟩)
  · exact .inr h
theorem Tups.off {K : PySem.W.Frag} {H H' : Hp} {D : Addr} {xs ys : List V} {ds : List (List V)} (t : Tups K H xs ds) (f : Off D H H') (hD : H D = some (.lst ys)) : Tups K H' xs ds := Paired.mapP t fun x d ⟨a, e, h⟩ => ⟨a, e, SqT.off f hD h⟩
theorem SqL.off {K : PySem.W.Frag} {H H' : Hp} {D a : Addr} {xs : List V} (f : Off D H H') (n : a ≠ D) (h : SqL K H a xs) : SqL K H' a xs := by
  rcases h with (h | ⟨o, h⟩) | h
  · exact .inl (.inl (f _ _ n h))
  · exact .inl (.inr ⟨o, f _ _ n h⟩)
  · exact .inr h
theorem sz100 {n : Nat} (h : n ≤ 100000) : n ≤ sizeLine := Nat.le_trans h (by decide)
theorem sz100l {n : Nat} (h : n < 100000) : n < sizeLine := Nat.lt_of_lt_of_le h (by decide)
theorem head_int (ns : List Int) (m : Int) : ∃ z, atI (ns.map V.int ++ [.int m]) 0 = some (.int z) := by
  cases ns with
  | nil => exact ⟨m, rfl⟩
  | cons z r => exact ⟨z, atI_nat (j := 0) rfl⟩
theorem last_int {l : List Int} {z : Int} (h : l[l.length - 1]? = some z) : atI (l.map V.int) (-1) = some (.int z) := by
  have ne : l ≠ [] := fun e => by
    rw [e] at h
    cases h
  have e1 := List.dropLast_concat_getLast ne
  have e2 : l.getLast ne = z := by
    rw [List.getLast_eq_getElem]
    rw [List.getElem?_eq_getElem (by cases l <;> simp at ne ⊢)] at h
    exact Option.some.inj h
  rw [← e1, List.map_append, e2]
  exact atI_last _ _
/-! ### the rules over a written part that is named: within a comprehension, too -/
section
variable {X : Cx} {K : PySem.W.Frag}
theorem ix_listK (h : X.K = K := by rfl) : IxR X (rIxL K) := by subst h; exact ix_list
theorem ix_tupK (h : X.K = K := by rfl) : IxR X (rIxT K) := by subst h; exact ix_tup
theorem sl_listK (h : X.K = K := by rfl) : SlR X (rSlL K) := by subst h; exact sl_list
theorem sl_tupK (h : X.K = K := by rfl) : SlR X (rSlT K) := by subst h; exact sl_tup
theorem op_in_seqK (h : X.K = K := by rfl) : OpR X (compareOp .In) (rIn K false) := by subst h; exact op_in_seq
theorem op_notIn_seqK (h : X.K = K := by rfl) : OpR X (compareOp .NotIn) (rIn K true) := by subst h; exact op_notIn_seq
theorem op_eqDK (hu : X.A.units + 64 < cLine) (h : X.K = K := by rfl) : OpR X (compareOp .Eq) (rEqD K) := by subst h; exact op_eqD hu
theorem op_neDK (hu : X.A.units + 64 < cLine) (h : X.K = K := by rfl) : OpR X (compareOp .NotEq) (rNeD K) := by subst h; exact op_neD hu
theorem op_catTK (h : X.K = K := by rfl) : OpR X (binaryOp .Add) (rCatT K) := by subst h; exact op_catT
theorem call_isiK' (h : X.K = K := by rfl) : CallR X (.builtin "isinstance") (rIsi K) := by subst h; exact call_isi
theorem call_isiTK (h : X.K = K := by rfl) : CallR X (.builtin "isinstance") (rIsiT K) := by subst h; exact call_isiT
theorem cr_allK (hc : X.calm = true) (h : X.K = K := by rfl) : CallR X (.builtin "all") (rAll K) := by subst h; exact cr_all hc
theorem cr_anyK (hc : X.calm = true) (h : X.K = K := by rfl) : CallR X (.builtin "any") (rAny K) := by subst h; exact cr_any hc
theorem cr_sumK (hc : X.calm = true) (h : X.K = K := by rfl) : CallR X (.builtin "sum") (rSum K) := by subst h; exact cr_sum hc
theorem pi_listK {tg l : Expr} {tl : TE} (hl : PE X l tl) (h : X.K = K := by rfl) : PI X tg l (iList K tl) := by subst h; exact pi_list hl
theorem pi_tupK {tg l : Expr} {tl : TE} (hl : PE X l tl) (h : X.K = K := by rfl) : PI X tg l (iTup K tl) := by subst h; exact pi_tup hl
theorem pi_reversedK {tg e : Expr} {ta : TA} {p pos : Pos} (hg : Gl X "reversed") (hm : X.mg "reversed" = none) (ha : PA X [e] ta) (hs : starEach [e] X.env = [(false, eval e X.env)] := by rfl) (h : X.K = K := by rfl) : PI X tg (.Call (.Name "reversed" p) [e] [] pos) (iRev K ta) := by subst h; exact pi_reversed hg hm ha hs
theorem pe_bm0K {o : Expr} {to : TE} {name : Str} {apos cpos : Pos} {T id : String} {r : V → List V → Hp → VK → Prop} (pa : PlainAttrs T) (slot : Slot T name id) (hty : typeOf (.builtin id) = pure (.type "method_descriptor")) (hm : MtR X id r) (ho : PE X o to)
    (hbase : attributeBase o name X.env (eval o X.env) = eval o X.env := by rfl) (hline : (apos.endLine == cpos.line) = true := by rfl) (h : X.K = K := by rfl) : PE X (.Call (.Attribute o name apos) [] [] cpos) (tBM0 K T r to) := by subst h; exact pe_bm0 pa slot hty hm ho hbase hline
theorem pe_bmK {o e : Expr} {es : List Expr} {to : TE} {t : TA} {name : Str} {apos cpos : Pos} {T id : String} {r : V → List V → Hp → VK → Prop} (pa : PlainAttrs T) (slot : Slot T name id) (hty : typeOf (.builtin id) = pure (.type "method_descriptor")) (hm : MtR X id r) (ho : PE X o to) (ha : PA X (e :: es) t)
    (hbase : attributeBase o name X.env (eval o X.env) = eval o X.env := by rfl)
    (hfew : ((backTo cpos (starEach (e :: es) X.env)).all (fun x => !x.1) && (backToKw cpos (keywordEach [] X.env)).all (fun x => x.1.isSome)
      && decide ((e :: es).length + ([] : List Keyword).length + (if ([] : List Keyword).isEmpty then 0 else 1) < 30)) = true := by rfl)
    (hline : (apos.endLine == cpos.line) = true := by rfl) (hs : starEach (e :: es) X.env = (false, eval e X.env) :: starEach es X.env := by rfl) (hplain : (backTo cpos (starEach es X.env)).any (·.1) = false := by rfl) (h : X.K = K := by rfl) :
    PE X (.Call (.Attribute o name apos) (e :: es) [] cpos) (tBM K T r to t) := by subst h; exact pe_bm pa slot hty hm ho ha hbase hfew hline hs hplain
theorem mt_indexK (h : X.K = K := by rfl) : MtR X "list.index" (rIndex K) := by subst h; exact mt_index
theorem pi_enumK {e : Expr} {ta : TA} {p pos tpos : Pos} {elts : List Expr} {kk : Nat} (hg : Gl X "enumerate") (hm : X.mg "enumerate" = none) (ha : PA X [e] ta) (hs : starEach [e] X.env = [(false, eval e X.env)] := by rfl) (h : X.K = K := by rfl) :
    PI X (.Tuple elts kk tpos) (.Call (.Name "enumerate" p) [e] [] pos) (iEnum K ta) := by subst h; exact pi_enum hg hm ha hs
theorem pi_zipK {e e2 : Expr} {ta : TA} {p pos tpos : Pos} {elts : List Expr} {kk : Nat} (hg : Gl X "zip") (hm : X.mg "zip" = none) (ha : PA X [e, e2] ta)
    (hs : starEach [e, e2] X.env = (false, eval e X.env) :: starEach [e2] X.env := by rfl) (hpl : (backTo pos (starEach [e2] X.env)).any (·.1) = false := by rfl) (h : X.K = K := by rfl) :
    PI X (.Tuple elts kk tpos) (.Call (.Name "zip" p) [e, e2] [] pos) (iZip K ta) := by subst h; exact pi_zip hg hm ha hs hpl
theorem pe_fldK {e : Expr} {f : Str} {pos : Pos} {ta : TE} (he : PE X e ta) (hb : attributeBase e f X.env (eval e X.env) = eval e X.env) (h : X.K = K := by rfl) : PE X (.Attribute e f pos) (tFld K ta f) := by subst h; exact pe_fld he hb
end

/-! ### ranges of ints of any size, walked -/
theorem turn_long {P : Program} {w : World} {K : PySem.W.Frag} {tg : Expr} (it : Addr) (lo : Int) (n : Nat) : Turn P w K tg (Itr lo n) [it] it (fun i h => IsLongIter h it (lo + (i : Nat) * 1) ((n : Int) - (i : Nat)) 1) where
  mem := by simp
  obj := fun i h st b hb => by
    have e : b = it := by simpa using hb
    subst e
    exact ⟨_, st, fun v z => by
      have z' : Data.fields _ = Data.cell v := z
      cases z'⟩
  keep := fun i h h' st k => k it (by simp) _ st
  item := by
    intro X hP hw hK hc i pins s σ H E I hf st hg
    subst hP hw hK
    obtain ⟨f0, f1, f2, f3, f4, f5⟩ := hf it (by simp)
    have W := Walks.longrange (prog := X.prog) (w := X.w) (I.ok.hd hc) it lo 1 n
    refine W.item i s _ _ hg st fun v h' tk hv st' kk => ?_
    obtain ⟨t, rfl⟩ := hv
    have I1 : Inv X pins σ H { s with heap := h', toks := tk } := I.turned (fun b o hb e => kk b o (by simpa using hb) e) f0 f1 f3 f4 f5
    refine ⟨_, rfl, go_of (s := { s with heap := h', toks := tk }) (n := "longrange_iterator") st' rfl rfl (by decide) ⟨.int (lo + i), H, I1, ⟨t, ?_⟩, ⟨rfl, rfl⟩, st', fun b hb => (hf b hb).1⟩⟩
    rw [Int.mul_one]
  done := by
    intro X hP hw hK hc i pins s σ H E I hf st hg
    subst hP hw hK
    obtain ⟨f0, f1, f2, f3, f4, f5⟩ := hf it (by simp)
    exact wpAny_pyNext_long_end (I.ok.hd hc) st (by have : n ≤ i := hg; omega) fun h' eb => ⟨rfl, I.turned (t' := s.toks) (fun b o hb e => eb b o hb e) f0 f1 f3 f4 f5⟩
  self := fun _ _ _ _ _ st h => wpAny_pyIter_longiter st h
theorem range_itL {X : Cx} {tg : Expr} {pins : List (Addr × Obj)} {σ : L2.St} {H : Hp} {s : Shared} {R : It → Hp → Prop} {E : Value → Shared → Prop} {lo hi : Int} {t u v : Tok} {tk : Nat} (I : Inv X pins σ H s)
    (q : R (Itr lo (hi - lo).toNat) H) : wpAny (model X.prog X.w) X.A (pyIter (.ref s.heap.objs.size)) (PIE X pins σ tg R) E { s with heap := s.heap.push { cls := .type "range", data := .fields #[.int lo t, .int hi u, .int 1 v] }, toks := tk } := by
  have I1 : Inv X pins σ H { s with heap := s.heap.push { cls := .type "range", data := .fields #[.int lo t, .int hi u, .int 1 v] }, toks := tk } := I.kept fun b o e => Heap.get?_push_of_some _ e
  have e1 : lo + ((0 : Nat) : Int) * 1 = lo := by simp
  have e2 : (((hi - lo).toNat : Nat) : Int) - ((0 : Nat) : Int) = Builtin.Range.rangeSize lo hi 1 := by rw [rangeSize_one]; split <;> omega
  cases hs : Builtin.Range.small lo hi 1 with
  | true =>
    refine wpAny_pyIter_range (IsRange.new ..) hs ?_
    refine ⟨(s.heap.push { cls := .type "range", data := .fields #[.int lo t, .int hi u, .int 1 v] }).objs.size, [(s.heap.push { cls := .type "range", data := .fields #[.int lo t, .int hi u, .int 1 v] }).objs.size], _, _, H, rfl,
      I1.kept (t' := tk) fun b o e => Heap.get?_push_of_some _ e, turn_range _ lo (hi - lo).toNat, ?_, fun b hb => ?_, q⟩
    · show IsRangeIter _ _ (lo + ((0 : Nat) : Int) * 1) ((((hi - lo).toNat : Nat) : Int) - ((0 : Nat) : Int)) 1
      rw [e1, e2]
      exact Heap.get?_push_size _ rfl
    · have e : b = (s.heap.push { cls := .type "range", data := .fields #[.int lo t, .int hi u, .int 1 v] }).objs.size := by simpa using hb
      subst e
      exact I1.fpOk (Nat.le_refl _) (I1.hok.fresh (Nat.le_refl _))
  | false =>
    refine wpAny_pyIter_longrange (IsRange.new ..) hs ?_
    refine ⟨(s.heap.push { cls := .type "range", data := .fields #[.int lo t, .int hi u, .int 1 v] }).objs.size, [(s.heap.push { cls := .type "range", data := .fields #[.int lo t, .int hi u, .int 1 v] }).objs.size], _, _, H, rfl,
      I1.kept (t' := tk) fun b o e => Heap.get?_push_of_some _ e, turn_long _ lo (hi - lo).toNat, ?_, fun b hb => ?_, q⟩
    · show IsLongIter _ _ (lo + ((0 : Nat) : Int) * 1) ((((hi - lo).toNat : Nat) : Int) - ((0 : Nat) : Int)) 1
      rw [e1, e2]
      exact Heap.get?_push_size _ rfl
    · have e : b = (s.heap.push { cls := .type "range", data := .fields #[.int lo t, .int hi u, .int 1 v] }).objs.size := by simpa using hb
      subst e
      exact I1.fpOk (Nat.le_refl _) (I1.hok.fresh (Nat.le_refl _))
def iRngL1 (ta : TA) : TI := fun σ H R => ta σ H fun vs H1 => ∃ j : Int, vs = [.int j] ∧ R (Itr 0 j.toNat) H1
def iRngL2 (ta : TA) : TI := fun σ H R => ta σ H fun vs H1 => ∃ i j : Int, vs = [.int i, .int j] ∧ R (Itr i (j - i).toNat) H1
theorem pi_rangeL1 {X : Cx} {tg : Expr} {a : Expr} {ta : TA} {p pos : Pos} (hg : Gl X "range") (hm : X.mg "range" = none) (ha : PA X [a] ta) (hs : starEach [a] X.env = [(false, eval a X.env)] := by rfl) : PI X tg (.Call (.Name "range" p) [a] [] pos) (iRngL1 ta) := by
  refine ⟨fun pins s σ H R I h => ?_⟩
  refine Call_ (ld_blt I hg hm boot_range (PyProof.Rows.callWith_type1 (thn (ha.run pos pins s σ H _ I h) fun us s1 ⟨vs, H1, I1, r1, q1⟩ => ?_) hs rfl))
  obtain ⟨j, e, q⟩ := q1
  subst e
  cases r1 with
  | cons r rr =>
    cases rr
    obtain ⟨t, rfl⟩ := r
    exact call_range_1 (range_itL I1 (by simpa using q))
theorem pi_rangeL2 {X : Cx} {tg : Expr} {a b : Expr} {ta : TA} {p pos : Pos} (hg : Gl X "range") (hm : X.mg "range" = none) (ha : PA X [a, b] ta) (hs : starEach [a, b] X.env = [(false, eval a X.env), (false, eval b X.env)] := by rfl) (hs2 : starEach [b] X.env = [(false, eval b X.env)] := by rfl) :
    PI X tg (.Call (.Name "range" p) [a, b] [] pos) (iRngL2 ta) := by
  refine ⟨fun pins s σ H R I h => ?_⟩
  refine Call_ (ld_blt I hg hm boot_range (PyProof.Rows.callWith_type1 (thn (ha.run pos pins s σ H _ I h) fun us s1 ⟨vs, H1, I1, r1, q1⟩ => ?_) (by rw [hs, hs2]) (by rw [hs2]; rfl)))
  obtain ⟨i, j, e, q⟩ := q1
  subst e
  cases r1 with
  | cons r rr =>
    cases rr with
    | cons r' rr =>
      cases rr
      obtain ⟨t, rfl⟩ := r
      obtain ⟨t', rfl⟩ := r'
      exact call_range_2 (range_itL I1 q)
/-! ### objects of own classes -/
structure Mn (P : Program) (w : World) (K : PySem.W.Frag) (mg : Str → Option Value) (base : Heap) (CX : CXT) (k : Nat) (C : Addr) (x : Str) (ps : List Str) (sp : Sp) : Prop where
  ex : ∃ f fd, Mk K C f ∧ FnOk P w K mg base CX k f fd ps sp ∧ mg x = some (.ref C) ∧ Binds K fd ps []
structure Nn (P : Program) (w : World) (K : PySem.W.Frag) (mg : Str → Option Value) (base : Heap) (CX : CXT) (k : Nat) (C : Addr) (m : Str) (ps : List Str) (sp : Sp) : Prop where
  cl : Cls K C
  ex : ∃ f fd, Meth K C m f ∧ FnOk P w K mg base CX k f fd ps sp ∧ Binds K fd ps []
section
variable {X : Cx} {CX : CXT} {k : Nat} {C : Addr} {ps : List Str} {sp : Sp} {E : XK} {x m : Str} {p pos apos : Pos} {e o : Expr} {es : List Expr} {t : TA} {ta : TE}
theorem pe_mk (M : Mn X.prog X.w X.K X.mg X.base CX k C x ps sp) (hr : Room (k + 1) X.A) (hg : Gl X x) (hx : Passes CX X E) (ha : PA X (e :: es) t)
    (hdb : (x == ("__debug__" : Str)) = false := by decide) (he : starEach (e :: es) X.env = (false, eval e X.env) :: starEach es X.env := by rfl) (hpl : (backTo pos (starEach es X.env)).any (·.1) = false := by rfl) :
    PE X (.Call (.Name x p) (e :: es) [] pos) (tMake C sp [] E t) := by
  obtain ⟨f, fd, mk, F, hm, b⟩ := M.ex
  exact pe_make mk F hr hg hm b .nil hx ha hdb he hpl
theorem pe_mk0 (M : Mn X.prog X.w X.K X.mg X.base CX k C x ps sp) (hr : Room (k + 1) X.A) (hg : Gl X x) (hx : Passes CX X E)
    (hdb : (x == ("__debug__" : Str)) = false := by decide) : PE X (.Call (.Name x p) [] [] pos) (tMake C sp [] E tNil) := by
  obtain ⟨f, fd, mk, F, hm, b⟩ := M.ex
  exact pe_make0 mk F hr hg hm b .nil hx hdb
theorem pe_md {pl : Sem Bool} (ho : PE X o ta) (N : Nn X.prog X.w X.K X.mg X.base CX k C m ps sp) (hr : Room k X.A) (hx : Passes CX X E) (ha : PA X (e :: es) t)
    (hst : starEach (e :: es) X.env = (false, eval e X.env) :: starEach es X.env := by rfl) (hpl : (backTo pos (starEach es X.env)).any (·.1) = false := by rfl)
    (ht : eval (.Call (.Attribute o m apos) (e :: es) [] pos) X.env = (do
      let ov ← eval o X.env
      standAt apos.atName
      let (f, first) ← holding [ov] (getMethod ov m pl)
      callWith pos f first (backTo pos (starEach (e :: es) X.env)) (backToKw pos (keywordEach [] X.env))) := by rfl) : PE X (.Call (.Attribute o m apos) (e :: es) [] pos) (tMeth C m sp [] E ta t) := by
  obtain ⟨f, fd, hm, F, b⟩ := N.ex
  exact pe_meth ho N.cl hm F hr b .nil hx ha hst hpl ht
theorem pe_md0 {pl : Sem Bool} (ho : PE X o ta) (N : Nn X.prog X.w X.K X.mg X.base CX k C m ps sp) (hr : Room k X.A) (hx : Passes CX X E)
    (ht : eval (.Call (.Attribute o m apos) [] [] pos) X.env = (do
      let ov ← eval o X.env
      standAt apos.atName
      let (f, first) ← holding [ov] (getMethod ov m pl)
      callWith pos f first (backTo pos (starEach [] X.env)) (backToKw pos (keywordEach [] X.env))) := by rfl) : PE X (.Call (.Attribute o m apos) [] [] pos) (tMeth C m sp [] E ta tNil) := by
  obtain ⟨f, fd, hm, F, b⟩ := N.ex
  exact pe_meth0 ho N.cl hm F hr b .nil hx ht
end
def Made (H : Hp) (C : Addr) (R : Addr → Hp → Prop) : Prop := ∀ x dx, H x = none → H dx = none → dx ≠ x → R x (upd (upd H dx (.own x)) x (.ins C dx []))
theorem Made.intro {H : Hp} {C : Addr} {R : Addr → Hp → Prop} (h : ∀ x dx H2, H x = none → Same H H2 → H2 x = some (.ins C dx []) → R x H2) : Made H C R := fun x dx hx hd ne =>
  h x dx _ hx (fun b o e => by rw [upd_ne (ne_of_none e hx), upd_ne (ne_of_none e hd)]; exact e) upd_same
theorem tMake_n {C : Addr} {sp : Sp} {dvs : List V} {E : XK} {t : TA} : tMake C sp dvs E t = fun σ H Q => t σ H fun vs H1 => Made H1 C fun x H2 => sp (.ref x :: (vs ++ dvs)) H2 (fun v H3 => v = .non ∧ Q (.ref x) H3) E := rfl
theorem sFld_n {K : PySem.W.Frag} {ta tv : TE} {f : Str} : sFld K ta tv f = fun D σ H => tv σ H fun y H1 => ta σ H1 fun x H2 => ∃ a C dx fs, x = .ref a ∧ H2 a = some (.ins C dx fs) ∧ Cls K C ∧ NoAttr K C f ∧ fs.length < 1000 ∧
  Upd H2 a (.ins C dx (putF f y fs)) fun H3 => D.nx σ H3 := rfl
theorem ps_fldK {X : Cx} {K : PySem.W.Frag} {o value : Expr} {f : Str} {pos pos' : Pos} {ta tv : TE} (ha : PE X o ta) (hv : PE X value tv) (hs : swapsWith value (some (.Attribute o f pos')) pos.line X.env = pure false) (h : X.K = K := by rfl) : PS X (.Assign [.Attribute o f pos'] value pos) (sFld K ta tv f) := by subst h; exact ps_fld ha hv hs
theorem lk0 {f : Str} {v : V} {r : List (Str × V)} : List.lookup f ((f, v) :: r) = some v := by simp [List.lookup]
theorem lk1 {f g : Str} {v : V} {r : List (Str × V)} {o : Option V} (h : (g == f) = false) (k : List.lookup g r = o) : List.lookup g ((f, v) :: r) = o := by
  rw [List.lookup_cons, h]
  exact k
theorem putF0 {f : Str} {v x : V} {r : List (Str × V)} : putF f v ((f, x) :: r) = (f, v) :: r := by
  unfold putF
  rw [if_pos rfl]
theorem putF1 {f g : Str} {v x : V} {r : List (Str × V)} (h : ¬ g = f) : putF f v ((g, x) :: r) = (g, x) :: putF f v r := by
  show (if g = f then _ else _) = _
  rw [if_neg h]
def rInsert : V → List V → Hp → VK → Prop := fun x vs H Q => ∃ (l : Addr) (xs : List V) (i : Int) (y : V), x = .ref l ∧ vs = [.int i, y] ∧ H l = some (.lst xs) ∧ xs.length < sizeLine ∧ 0 ≤ i ∧ i < 2 ^ 63 ∧ Upd H l (.lst (xs.take i.toNat ++ [y] ++ xs.drop i.toNat)) fun H2 => Q .non H2
theorem mt_insertR {X : Cx} : MtR X "list.insert" rInsert := mt_insert
theorem rRemI_n : rRemI = fun x xs H Q => ∃ (l : Addr) (ns : List Int) (k : Int) (j : Nat), x = V.ref l ∧ xs = [V.int k] ∧ H l = some (.lst (ns.map V.int)) ∧ ns[j]? = some k ∧ (∀ m : Nat, m < j → ns[m]? ≠ some k) ∧ Upd H l (.lst ((ns.eraseIdx j).map V.int)) fun H2 => Q .non H2 := rfl
theorem inV_int (n : Int) : ∀ ns : List Int, inV (.int n) (ns.map V.int) = decide (n ∈ ns)
  | [] => rfl
  | a :: r => by
    have e : inV (.int n) ((a :: r).map V.int) = (eqV (.int a) (.int n) || inV (.int n) (r.map V.int)) := rfl
    rw [e, inV_int n r]
    have e2 : eqV (.int a) (.int n) = decide (a = n) := by
      unfold eqV
      rfl
    rw [e2]
    by_cases h : a = n
    · subst h
      simp
    · simp [h, Ne.symm h]
theorem flat_ints : ∀ ns : List Int, (ns.map V.int).all flatV = true
  | [] => rfl
  | _ :: r => flat_ints r

/-! ### loops by an invariant -/
theorem Loop.list {K : PySem.W.Frag} {a : Addr} {xs : List V} {g : TG} {tb : TS} {D : Ends} {σ : L2.St} {H : Hp} (Pv : Nat → L2.St → Hp → Prop) (h0 : Pv 0 σ H) (hl : ∀ i σ H, i ≤ xs.length → Pv i σ H → SqL K H a xs)
    (hs : ∀ i x σ H, xs[i]? = some x → Pv i σ H → g x σ H fun σ2 H2 => tb { D with nx := Pv (i + 1), ct := Pv (i + 1), bk := D.nx } σ2 H2) (hd : ∀ σ H, Pv xs.length σ H → D.nx σ H) : Loop (Itl K a) g tb D σ H := for_list Pv h0 hl hs hd
theorem Loop.tup {K : PySem.W.Frag} {a : Addr} {xs : List V} {g : TG} {tb : TS} {D : Ends} {σ : L2.St} {H : Hp} (Pv : Nat → L2.St → Hp → Prop) (h0 : Pv 0 σ H) (hl : ∀ i σ H, i ≤ xs.length → Pv i σ H → SqT K H a xs)
    (hs : ∀ i x σ H, xs[i]? = some x → Pv i σ H → g x σ H fun σ2 H2 => tb { D with nx := Pv (i + 1), ct := Pv (i + 1), bk := D.nx } σ2 H2) (hd : ∀ σ H, Pv xs.length σ H → D.nx σ H) : Loop (Itt K a) g tb D σ H := for_tup Pv h0 hl hs hd
theorem Loop.range {lo : Int} {n : Nat} {g : TG} {tb : TS} {D : Ends} {σ : L2.St} {H : Hp} (Pv : Nat → L2.St → Hp → Prop) (h0 : Pv 0 σ H)
    (hs : ∀ i σ H, i < n → Pv i σ H → g (.int (lo + i)) σ H fun σ2 H2 => tb { D with nx := Pv (i + 1), ct := Pv (i + 1), bk := D.nx } σ2 H2) (hd : ∀ σ H, Pv n σ H → D.nx σ H) : Loop (Itr lo n) g tb D σ H := for_range Pv h0 hs hd
theorem Loop.rev {K : PySem.W.Frag} {a : Addr} {xs : List V} {n : Nat} {g : TG} {tb : TS} {D : Ends} {σ : L2.St} {H : Hp} (hn : n = xs.length) (Pv : Nat → L2.St → Hp → Prop) (h0 : Pv 0 σ H) (hl : ∀ i σ H, i ≤ xs.length → Pv i σ H → SqL K H a xs)
    (hs : ∀ i x σ H, xs[xs.length - 1 - i]? = some x → i < xs.length → Pv i σ H → g x σ H fun σ2 H2 => tb { D with nx := Pv (i + 1), ct := Pv (i + 1), bk := D.nx } σ2 H2) (hd : ∀ σ H, Pv xs.length σ H → D.nx σ H) : Loop (Itv K a n) g tb D σ H := by
  subst hn
  refine ⟨fun i m σ H => m = xs.length - i ∧ i ≤ xs.length ∧ Pv i σ H, ⟨xs.length, by simp, Nat.zero_le _, h0⟩, ?_⟩
  rintro i m σ H ⟨rfl, hi, p⟩
  have q := hl i σ H hi p
  by_cases hlt : i < xs.length
  · have hx : xs.length - 1 - i < xs.length := by omega
    refine .inr ⟨⟨hlt, xs, xs[xs.length - 1 - i], q, by simp [hx]⟩, Pv (i + 1), fun σ' H' p' => ⟨xs.length - (i + 1), by omega, rfl, hlt, p'⟩, fun x H' y => ?_⟩
    obtain ⟨e, y⟩ := y
    subst e
    exact hs i x σ _ (y xs q) hlt p
  · have e : i = xs.length := by omega
    subst e
    exact .inl ⟨Nat.le_refl _, hd σ H p⟩
theorem Loop.enum {K : PySem.W.Frag} {a : Addr} {xs : List V} {g : TG} {tb : TS} {D : Ends} {σ : L2.St} {H : Hp} (Pv : Nat → L2.St → Hp → Prop) (h0 : Pv 0 σ H) (hl : ∀ i σ H, i ≤ xs.length → Pv i σ H → SqL K H a xs)
    (hs : ∀ i x σ H T H1, xs[i]? = some x → Pv i σ H → H T = none → Same H H1 → H1 T = some (.tup [.int (i : Nat), x]) → g (.ref T) σ H1 fun σ2 H2 => tb { D with nx := Pv (i + 1), ct := Pv (i + 1), bk := D.nx } σ2 H2) (hd : ∀ σ H, Pv xs.length σ H → D.nx σ H) : Loop (Ite K a) g tb D σ H := by
  refine ⟨fun i m σ H => m = xs.length - i ∧ i ≤ xs.length ∧ Pv i σ H, ⟨xs.length, by simp, Nat.zero_le _, h0⟩, ?_⟩
  rintro i m σ H ⟨rfl, hi, p⟩
  have q := hl i σ H hi p
  by_cases hlt : i < xs.length
  · refine .inr ⟨⟨xs, xs[i], q, by simp [hlt]⟩, Pv (i + 1), fun σ' H' p' => ⟨xs.length - (i + 1), by omega, rfl, hlt, p'⟩, fun v H' y => ?_⟩
    obtain ⟨T, x, rfl, nT, rfl, f⟩ := y
    exact hs i x σ H T _ (f xs q) p nT (same_new nT) upd_same
  · have e : i = xs.length := by omega
    subst e
    exact .inl ⟨⟨xs, q, Nat.le_refl _⟩, hd σ H p⟩
theorem Loop.zip {K : PySem.W.Frag} {a b : Addr} {xs ys : List V} {g : TG} {tb : TS} {D : Ends} {σ : L2.St} {H : Hp} (hn : xs.length = ys.length) (Pv : Nat → L2.St → Hp → Prop) (h0 : Pv 0 σ H) (hl : ∀ i σ H, i ≤ xs.length → Pv i σ H → SqL K H a xs ∧ SqL K H b ys)
    (hs : ∀ i x y σ H T H1, xs[i]? = some x → ys[i]? = some y → Pv i σ H → H T = none → Same H H1 → H1 T = some (.tup [x, y]) → g (.ref T) σ H1 fun σ2 H2 => tb { D with nx := Pv (i + 1), ct := Pv (i + 1), bk := D.nx } σ2 H2) (hd : ∀ σ H, Pv xs.length σ H → D.nx σ H) : Loop (Itz K a b) g tb D σ H := by
  refine ⟨fun i m σ H => m = xs.length - i ∧ i ≤ xs.length ∧ Pv i σ H, ⟨xs.length, by simp, Nat.zero_le _, h0⟩, ?_⟩
  rintro i m σ H ⟨rfl, hi, p⟩
  have q := hl i σ H hi p
  by_cases hlt : i < xs.length
  · refine .inr ⟨⟨xs, ys, xs[i], ys[i]'(by omega), q.1, q.2, by simp [hlt], by simp [show i < ys.length by omega]⟩, Pv (i + 1), fun σ' H' p' => ⟨xs.length - (i + 1), by omega, rfl, hlt, p'⟩, fun v H' y => ?_⟩
    obtain ⟨T, x, y, rfl, nT, rfl, f1, f2⟩ := y
    exact hs i x y σ H T _ (f1 xs q.1) (f2 ys q.2) p nT (same_new nT) upd_same
  · have e : i = xs.length := by omega
    subst e
    exact .inl ⟨⟨xs, ys, q.1, q.2, .inl (Nat.le_refl _)⟩, hd σ H p⟩
theorem Loop.str {z : Str} {g : TG} {tb : TS} {D : Ends} {σ : L2.St} {H : Hp} (Pv : Nat → L2.St → Hp → Prop) (h0 : Pv 0 σ H)
    (hs : ∀ i c σ H, z.cps[i]? = some c → Pv i σ H → g (.str ⟨#[c]⟩) σ H fun σ2 H2 => tb { D with nx := Pv (i + 1), ct := Pv (i + 1), bk := D.nx } σ2 H2) (hd : ∀ σ H, Pv z.cps.size σ H → D.nx σ H) : Loop (Its z) g tb D σ H := by
  refine ⟨fun i m σ H => m = z.cps.size - i ∧ i ≤ z.cps.size ∧ Pv i σ H, ⟨z.cps.size, by simp, Nat.zero_le _, h0⟩, ?_⟩
  rintro i m σ H ⟨rfl, hi, p⟩
  by_cases hlt : i < z.cps.size
  · refine .inr ⟨hlt, Pv (i + 1), fun σ' H' p' => ⟨z.cps.size - (i + 1), by omega, rfl, hlt, p'⟩, fun x H' y => ?_⟩
    obtain ⟨e, c, hc, ex⟩ := y
    subst e ex
    exact hs i c σ _ hc p
  · have e : i = z.cps.size := by omega
    subst e
    exact .inl ⟨Nat.le_refl _, hd σ H p⟩

theorem int_at {ns : List Int} {i : Nat} {x : V} (h : (ns.map V.int)[i]? = some x) : ∃ z, ns[i]? = some z ∧ x = .int z := by
  rw [List.getElem?_map] at h
  cases e : ns[i]? with
  | none =>
    rw [e] at h
    cases h
  | some z =>
    rw [e] at h
    exact ⟨z, rfl, (Option.some.inj h).symm⟩
theorem at_int {ns : List Int} {i : Nat} {z : Int} (h : ns[i]? = some z) : (ns.map V.int)[i]? = some (.int z) := by
  rw [List.getElem?_map, h]
  rfl
theorem take_snoc {α : Type} {l : List α} {i : Nat} {x : α} (h : l[i]? = some x) : l.take (i + 1) = l.take i ++ [x] := by
  rw [List.take_add_one, h]
  rfl
theorem drop_at {α : Type} {l : List α} {i : Nat} {x : α} (h : l[i]? = some x) : l.drop i = x :: l.drop (i + 1) := by
  obtain ⟨hi, e⟩ := List.getElem?_eq_some_iff.mp h
  rw [List.drop_eq_getElem_cons hi, e]
theorem iteN {c A B : Prop} [Decidable c] (hc : ¬ c) (h : B) : if c then A else B := by
  rw [if_neg hc]
  exact h
theorem iteP {c A B : Prop} [Decidable c] (hc : c) (h : A) : if c then A else B := by
  rw [if_pos hc]
  exact h
/-! ### comprehensions -/
/-- what is made so far stands at D; the source stands; an element may change what it likes but D -/
theorem Cmp.list {K : PySem.W.Frag} {a : Addr} {xs : List V} {g : TG} {tt : TT} {te : TE} {vs : List Nat} {σ : L2.St} {H1 : Hp} {Q : VK} (Pv : Addr → Nat → List V → Hp → Prop)
    (h0 : ∀ D H2, H1 D = none → Same H1 H2 → H2 D = some (.lst []) → Pv D 0 [] H2) (hl : ∀ D i acc H, i ≤ xs.length → Pv D i acc H → SqL K H a xs)
    (hs : ∀ D i x acc H (Nx : Hp → Prop), xs[i]? = some x → acc.length ≤ i → Pv D i acc H → (∀ acc' H', acc'.length ≤ i + 1 → Pv D (i + 1) acc' H' → Nx H') → g x (wipe σ vs) H fun σ2 H2 => wipe σ2 vs = wipe σ vs ∧ tt σ2 H2 fun b H3 =>
      if b = true then te σ2 H3 fun y H4 => ∃ acc, H4 D = some (.lst acc) ∧ acc.length < sizeLine ∧ Nx (upd H4 D (.lst (acc ++ [y]))) else Nx H3) (hd : ∀ D acc H, acc.length ≤ xs.length → Pv D xs.length acc H → Q (.ref D) H) : Cmp (Itl K a) g tt te vs σ H1 Q := fun D nD =>
  lc_list (K := K) (a := a) (xs := xs) (fun i H => ∃ acc, acc.length ≤ i ∧ Pv D i acc H) ⟨[], Nat.zero_le _, h0 D _ nD (same_new nD) upd_same⟩ (fun i H hi ⟨acc, _, p⟩ => hl D i acc H hi p)
    (fun i x H hx ⟨acc, ha, p⟩ => hs D i x acc H _ hx ha p fun acc' H' h1 h2 => ⟨acc', h1, h2⟩) (fun H ⟨acc, ha, p⟩ => hd D acc H ha p)
theorem Cmp.tup {K : PySem.W.Frag} {a : Addr} {xs : List V} {g : TG} {tt : TT} {te : TE} {vs : List Nat} {σ : L2.St} {H1 : Hp} {Q : VK} (Pv : Addr → Nat → List V → Hp → Prop)
    (h0 : ∀ D H2, H1 D = none → Same H1 H2 → H2 D = some (.lst []) → Pv D 0 [] H2) (hl : ∀ D i acc H, i ≤ xs.length → Pv D i acc H → SqT K H a xs)
    (hs : ∀ D i x acc H (Nx : Hp → Prop), xs[i]? = some x → acc.length ≤ i → Pv D i acc H → (∀ acc' H', acc'.length ≤ i + 1 → Pv D (i + 1) acc' H' → Nx H') → g x (wipe σ vs) H fun σ2 H2 => wipe σ2 vs = wipe σ vs ∧ tt σ2 H2 fun b H3 =>
      if b = true then te σ2 H3 fun y H4 => ∃ acc, H4 D = some (.lst acc) ∧ acc.length < sizeLine ∧ Nx (upd H4 D (.lst (acc ++ [y]))) else Nx H3) (hd : ∀ D acc H, acc.length ≤ xs.length → Pv D xs.length acc H → Q (.ref D) H) : Cmp (Itt K a) g tt te vs σ H1 Q := fun D nD =>
  lc_tup (K := K) (a := a) (xs := xs) (fun i H => ∃ acc, acc.length ≤ i ∧ Pv D i acc H) ⟨[], Nat.zero_le _, h0 D _ nD (same_new nD) upd_same⟩ (fun i H hi ⟨acc, _, p⟩ => hl D i acc H hi p)
    (fun i x H hx ⟨acc, ha, p⟩ => hs D i x acc H _ hx ha p fun acc' H' h1 h2 => ⟨acc', h1, h2⟩) (fun H ⟨acc, ha, p⟩ => hd D acc H ha p)
theorem Cmp.range {lo : Int} {n : Nat} {g : TG} {tt : TT} {te : TE} {vs : List Nat} {σ : L2.St} {H1 : Hp} {Q : VK} (Pv : Addr → Nat → List V → Hp → Prop)
    (h0 : ∀ D H2, H1 D = none → Same H1 H2 → H2 D = some (.lst []) → Pv D 0 [] H2)
    (hs : ∀ D i acc H (Nx : Hp → Prop), i < n → acc.length ≤ i → Pv D i acc H → (∀ acc' H', acc'.length ≤ i + 1 → Pv D (i + 1) acc' H' → Nx H') → g (.int (lo + i)) (wipe σ vs) H fun σ2 H2 => wipe σ2 vs = wipe σ vs ∧ tt σ2 H2 fun b H3 =>
      if b = true then te σ2 H3 fun y H4 => ∃ acc, H4 D = some (.lst acc) ∧ acc.length < sizeLine ∧ Nx (upd H4 D (.lst (acc ++ [y]))) else Nx H3) (hd : ∀ D acc H, acc.length ≤ n → Pv D n acc H → Q (.ref D) H) : Cmp (Itr lo n) g tt te vs σ H1 Q := fun D nD =>
  lc_range (lo := lo) (n := n) (fun i H => ∃ acc, acc.length ≤ i ∧ Pv D i acc H) ⟨[], Nat.zero_le _, h0 D _ nD (same_new nD) upd_same⟩
    (fun i H hx ⟨acc, ha, p⟩ => hs D i acc H _ hx ha p fun acc' H' h1 h2 => ⟨acc', h1, h2⟩) (fun H ⟨acc, ha, p⟩ => hd D acc H ha p)
theorem push {D : Addr} {i : Nat} {acc : List V} {y : V} {H4 : Hp} {Nx : Hp → Prop} {PV : List V → Hp → Prop} (hN : ∀ acc' H', acc'.length ≤ i + 1 → PV acc' H' → Nx H') (ha : acc.length ≤ i) (h : H4 D = some (.lst acc)) (hi : i < 1000000)
    (hp : ∀ H5, Off D H4 H5 → H5 D = some (.lst (acc ++ [y])) → PV (acc ++ [y]) H5) : ∃ acc, H4 D = some (.lst acc) ∧ acc.length < sizeLine ∧ Nx (upd H4 D (.lst (acc ++ [y]))) :=
  ⟨acc, h, Nat.lt_of_lt_of_le (Nat.lt_of_le_of_lt ha hi) (by decide), hN _ _ (by rw [List.length_append]; exact Nat.succ_le_succ ha) (hp _ Off.upd upd_same)⟩
/-- elements that change nothing, over a list; with a test -/
theorem Cmp.pureF {K : PySem.W.Frag} {a : Addr} {xs : List V} {j : Nat} {tt : TT} {te : TE} {vs : List Nat} {σ : L2.St} {H1 : Hp} {Q : VK} (p : V → Bool) (f : V → V) (hS : SqL K H1 a xs) (hz : xs.length ≤ 100000) (hw : ∀ x, wipe ((wipe σ vs).set j (some x)) vs = wipe σ vs)
    (ht : ∀ x H2 (R : Bool → Hp → Prop), x ∈ xs → Same H1 H2 → (∀ H3, Same H2 H3 → R (p x) H3) → tt ((wipe σ vs).set j (some x)) H2 R)
    (he : ∀ x H2 (R : VK), x ∈ xs → p x = true → Same H1 H2 → (∀ H3, Same H2 H3 → R (f x) H3) → te ((wipe σ vs).set j (some x)) H2 R)
    (hd : ∀ l H2, H1 l = none → Same H1 H2 → H2 l = some (.lst ((xs.filter p).map f)) → Q (.ref l) H2) : Cmp (Itl K a) (gName j) tt te vs σ H1 Q := by
  refine Cmp.list (xs := xs) (fun D i acc H => H1 D = none ∧ Same H1 H ∧ H D = some (.lst acc) ∧ acc = ((xs.take i).filter p).map f) (fun D H2 nD s2 h2 => ⟨nD, s2, h2, by simp⟩) (fun D i acc H _ ⟨_, s2, _⟩ => s2.seq hS) ?_ ?_
  · rintro D i x acc H Nx hx ha ⟨nD, s2, h2, ea⟩ hN
    have hi : i < xs.length := (List.getElem?_eq_some_iff.mp hx).1
    have hm := List.mem_of_getElem? hx
    refine ⟨hw x, ht x H _ hm s2 fun H3 s3 => ?_⟩
    cases hp : p x with
    | true =>
      rw [if_pos rfl]
      refine he x H3 _ hm hp (s2.trans s3) fun H4 s4 => push hN ha (s4 _ _ (s3 _ _ h2)) (by omega) fun H5 o5 h5 => ⟨nD, Same.off ((s2.trans s3).trans s4) nD o5, h5, ?_⟩
      rw [ea, take_snoc hx, List.filter_append, List.map_append]
      simp [hp]
    | false =>
      rw [if_neg Bool.false_ne_true]
      refine hN acc H3 (Nat.le_succ_of_le ha) ⟨nD, s2.trans s3, s3 _ _ h2, ?_⟩
      rw [ea, take_snoc hx, List.filter_append, List.map_append]
      simp [hp]
  · rintro D acc H _ ⟨nD, s2, h2, ea⟩
    rw [List.take_length] at ea
    exact hd D H nD s2 (ea ▸ h2)
theorem Cmp.pureL {K : PySem.W.Frag} {a : Addr} {xs : List V} {j : Nat} {te : TE} {vs : List Nat} {σ : L2.St} {H1 : Hp} {Q : VK} (f : V → V) (hS : SqL K H1 a xs) (hz : xs.length ≤ 100000) (hw : ∀ x, wipe ((wipe σ vs).set j (some x)) vs = wipe σ vs)
    (he : ∀ x H2 (R : VK), x ∈ xs → Same H1 H2 → (∀ H3, Same H2 H3 → R (f x) H3) → te ((wipe σ vs).set j (some x)) H2 R)
    (hd : ∀ l H2, H1 l = none → Same H1 H2 → H2 l = some (.lst (xs.map f)) → Q (.ref l) H2) : Cmp (Itl K a) (gName j) tYes te vs σ H1 Q :=
  Cmp.pureF (fun _ => true) f hS hz hw (fun x H2 R _ _ h => h H2 (Same.refl H2)) (fun x H2 R hm _ => he x H2 R hm) fun l H2 n s h => hd l H2 n s (by rw [List.filter_eq_self.mpr (fun _ _ => rfl)] at h; exact h)
theorem Cmp.pureRF {lo : Int} {n : Nat} {j : Nat} {tt : TT} {te : TE} {vs : List Nat} {σ : L2.St} {H1 : Hp} {Q : VK} (p : Nat → Bool) (f : Nat → V) (hz : n ≤ 100000) (hw : ∀ x, wipe ((wipe σ vs).set j (some x)) vs = wipe σ vs)
    (ht : ∀ i H2 (R : Bool → Hp → Prop), i < n → Same H1 H2 → (∀ H3, Same H2 H3 → R (p i) H3) → tt ((wipe σ vs).set j (some (.int (lo + (i : Int))))) H2 R)
    (he : ∀ i H2 (R : VK), i < n → p i = true → Same H1 H2 → (∀ H3, Same H2 H3 → R (f i) H3) → te ((wipe σ vs).set j (some (.int (lo + (i : Int))))) H2 R)
    (hd : ∀ l H2, H1 l = none → Same H1 H2 → H2 l = some (.lst (((List.range n).filter p).map f)) → Q (.ref l) H2) : Cmp (Itr lo n) (gName j) tt te vs σ H1 Q := by
  refine Cmp.range (fun D i acc H => H1 D = none ∧ Same H1 H ∧ H D = some (.lst acc) ∧ acc = ((List.range i).filter p).map f) (fun D H2 nD s2 h2 => ⟨nD, s2, h2, by simp⟩) ?_ ?_
  · rintro D i acc H Nx hi ha ⟨nD, s2, h2, ea⟩ hN
    refine ⟨hw _, ht i H _ hi s2 fun H3 s3 => ?_⟩
    cases hp : p i with
    | true =>
      rw [if_pos rfl]
      refine he i H3 _ hi hp (s2.trans s3) fun H4 s4 => push hN ha (s4 _ _ (s3 _ _ h2)) (by omega) fun H5 o5 h5 => ⟨nD, Same.off ((s2.trans s3).trans s4) nD o5, h5, ?_⟩
      rw [ea, List.range_succ, List.filter_append, List.map_append]
      simp [hp]
    | false =>
      rw [if_neg Bool.false_ne_true]
      refine hN acc H3 (Nat.le_succ_of_le ha) ⟨nD, s2.trans s3, s3 _ _ h2, ?_⟩
      rw [ea, List.range_succ, List.filter_append, List.map_append]
      simp [hp]
  · rintro D acc H _ ⟨nD, s2, h2, ea⟩
    exact hd D H nD s2 (ea ▸ h2)
theorem Cmp.pureR {lo : Int} {n : Nat} {j : Nat} {te : TE} {vs : List Nat} {σ : L2.St} {H1 : Hp} {Q : VK} (f : Nat → V) (hz : n ≤ 100000) (hw : ∀ x, wipe ((wipe σ vs).set j (some x)) vs = wipe σ vs)
    (he : ∀ i H2 (R : VK), i < n → Same H1 H2 → (∀ H3, Same H2 H3 → R (f i) H3) → te ((wipe σ vs).set j (some (.int (lo + (i : Int))))) H2 R)
    (hd : ∀ l H2, H1 l = none → Same H1 H2 → H2 l = some (.lst ((List.range n).map f)) → Q (.ref l) H2) : Cmp (Itr lo n) (gName j) tYes te vs σ H1 Q :=
  Cmp.pureRF (fun _ => true) f hz hw (fun x H2 R _ _ h => h H2 (Same.refl H2)) (fun x H2 R hm _ => he x H2 R hm) fun l H2 n s h => hd l H2 n s (by rw [List.filter_eq_self.mpr (fun _ _ => rfl)] at h; exact h)

theorem sq_true {K : PySem.W.Frag} {H : Hp} {l : Addr} {α : Type} {ys : List α} (h : H l = some (.lst (ys.map fun _ => V.bl true))) : SqL K H l ((ys.map fun _ => true).map V.bl) := by
  rw [List.map_map]
  exact seq_of h
theorem all_true {α : Type} : ∀ ys : List α, (ys.map fun _ => true).all id = true
  | [] => rfl
  | _ :: r => all_true r
theorem cut_to (xs : List V) (j : Nat) : cutV xs none (some (j : Int)) = xs.take j := by
  unfold cutV
  rw [HT.sIx_none, HT.sIx_nat, List.drop_zero, Nat.sub_zero]
  by_cases h : j ≤ xs.length
  · rw [Nat.min_eq_left h]
  · rw [Nat.min_eq_right (by omega), List.take_of_length_le (Nat.le_refl _), List.take_of_length_le (by omega)]
theorem cut_from (xs : List V) (j : Nat) : cutV xs (some (j : Int)) none = xs.drop j := by
  unfold cutV
  rw [HT.sIx_none, HT.sIx_nat]
  by_cases h : j ≤ xs.length
  · rw [Nat.min_eq_left h, List.take_of_length_le (by rw [List.length_drop]; omega)]
  · rw [Nat.min_eq_right (by omega), List.drop_eq_nil_of_le (Nat.le_refl _), List.drop_eq_nil_of_le (by omega), List.take_nil]

/-! ### data -/
def pd : V → PyData
  | .bl b => .bool b
  | .int i => .int i
  | .str x => .str x
  | _ => .none
def isPd : V → Bool
  | .bl _ => true
  | .int _ => true
  | .str x => PyData.strOk x
  | .non => true
  | _ => false
theorem dp_pd {K : PySem.W.Frag} {H : Hp} : ∀ {x : V}, isPd x = true → Dp K H x (pd x)
  | .non, _ => .non
  | .bl b, _ => .bl b
  | .int i, _ => .int i
  | .str x, _ => .str x
theorem dpAll_pd {K : PySem.W.Frag} {H : Hp} : ∀ {xs : List V}, xs.all isPd = true → DpAll K H xs (xs.map pd)
  | [], _ => .nil
  | x :: xs, h => by
    rw [List.all_cons, Bool.and_eq_true] at h
    exact .cons (dp_pd h.1) (dpAll_pd h.2)
theorem ints_pd : ∀ ns : List Int, (ns.map V.int).all isPd = true
  | [] => rfl
  | _ :: r => ints_pd r
theorem dp_lst {K : PySem.W.Frag} {H : Hp} {a : Addr} {xs : List V} (h : SqL K H a xs) (hx : xs.all isPd = true) : Dp K H (.ref a) (.list (xs.map pd)) := .lst h (dpAll_pd hx)
theorem dp_tup {K : PySem.W.Frag} {H : Hp} {a : Addr} {xs : List V} (h : SqT K H a xs) (hx : xs.all isPd = true) : Dp K H (.ref a) (.tuple (xs.map pd)) := .tup h (dpAll_pd hx)
theorem pd_lay : ∀ {x : V}, isPd x = true → (pd x).canLay0 = true
  | .non, _ => rfl
  | .bl _, _ => rfl
  | .int _, _ => rfl
  | .str x, h => h
theorem pd_layAll : ∀ {xs : List V}, xs.all isPd = true → PyData.canLayAll0 (xs.map pd) = true
  | [], _ => rfl
  | x :: xs, h => by
    rw [List.all_cons, Bool.and_eq_true] at h
    show ((pd x).canLay0 && PyData.canLayAll0 (xs.map pd)) = true
    rw [pd_lay h.1, pd_layAll h.2]
    rfl
theorem pd_depth : ∀ x : V, (pd x).depth = 0
  | .non => rfl
  | .bl _ => rfl
  | .int _ => rfl
  | .str _ => rfl
  | .byt _ => rfl
  | .flt _ => rfl
  | .ref _ => rfl
  | .ty _ => rfl

theorem pd_depthAll : ∀ xs : List V, PyData.depthAll (xs.map pd) = 0
  | [] => rfl
  | x :: xs => by
    show max (pd x).depth (PyData.depthAll (xs.map pd)) = 0
    rw [pd_depth, pd_depthAll]
    rfl
theorem shaped_lst {xs : List V} (h : xs.all isPd = true) : SeqAt.shaped (.list (xs.map pd)) = true := by
  have e : (PyData.list (xs.map pd)).depth = 1 := by
    show PyData.depthAll (xs.map pd) + 1 = 1
    rw [pd_depthAll]
  show ((PyData.canLayAll0 (xs.map pd)) && decide ((PyData.list (xs.map pd)).depth ≤ 64)) = true
  rw [pd_layAll h, e]
  rfl
theorem shaped_tup {xs : List V} (h : xs.all isPd = true) : SeqAt.shaped (.tuple (xs.map pd)) = true := by
  have e : (PyData.tuple (xs.map pd)).depth = 1 := by
    show PyData.depthAll (xs.map pd) + 1 = 1
    rw [pd_depthAll]
  show ((PyData.canLayAll0 (xs.map pd)) && decide ((PyData.tuple (xs.map pd)).depth ≤ 64)) = true
  rw [pd_layAll h, e]
  rfl
theorem eqvAll_ints : ∀ ns ms : List Int, PyData.eqvAll ((ns.map V.int).map pd) ((ms.map V.int).map pd) = decide (ns = ms)
  | [], [] => rfl
  | [], _ :: _ => rfl
  | _ :: _, [] => rfl
  | a :: r, b :: t => by
    show ((a == b) && PyData.eqvAll ((r.map V.int).map pd) ((t.map V.int).map pd)) = decide (a :: r = b :: t)
    rw [eqvAll_ints r t]
    by_cases h : a = b
    · subst h
      simp
    · simp [h]
theorem eqv_ints (ns ms : List Int) : PyData.eqv (.list ((ns.map V.int).map pd)) (.list ((ms.map V.int).map pd)) = decide (ns = ms) := eqvAll_ints ns ms
/-- == of two lists of ints -/
theorem eq_ints {K : PySem.W.Frag} {H : Hp} {a b : Addr} {ns ms : List Int} {Q : VK} (ha : SqL K H a (ns.map V.int)) (hb : SqL K H b (ms.map V.int)) (q : Q (.bl (decide (ns = ms))) H) : rEqD K (.ref a) (.ref b) H Q :=
  ⟨_, _, dp_lst ha (ints_pd ns), dp_lst hb (ints_pd ms), shaped_lst (ints_pd ns), shaped_lst (ints_pd ms), by rw [eqv_ints]; exact q⟩
theorem ne_ints {K : PySem.W.Frag} {H : Hp} {a b : Addr} {ns ms : List Int} {Q : VK} (ha : SqL K H a (ns.map V.int)) (hb : SqL K H b (ms.map V.int)) (q : Q (.bl (!decide (ns = ms))) H) : rNeD K (.ref a) (.ref b) H Q :=
  ⟨_, _, dp_lst ha (ints_pd ns), dp_lst hb (ints_pd ms), shaped_lst (ints_pd ns), shaped_lst (ints_pd ms), by rw [eqv_ints]; exact q⟩
/-- == of equal data -/
theorem eq_tups {K : PySem.W.Frag} {H : Hp} {a b : Addr} {xs : List V} {Q : VK} (ha : SqT K H a xs) (hb : SqT K H b xs) (hx : xs.all isPd = true) (q : Q (.bl true) H) : rEqD K (.ref a) (.ref b) H Q :=
  ⟨_, _, dp_tup ha hx, dp_tup hb hx, shaped_tup hx, shaped_tup hx, by rw [SeqAt.eqv_refl (.tuple (xs.map pd)) (show PyData.canLayAll0 (xs.map pd) = true from pd_layAll hx)]; exact q⟩

/-- the type of a list, of a tuple, of an int that is told -/
theorem tyv_list {K : PySem.W.Frag} {H : Hp} {a : Addr} {xs : List V} (h : SqL K H a xs) : tyV K "list" (.ref a) H := .inl ⟨rfl, _, h⟩
theorem ty_int {K : PySem.W.Frag} {H : Hp} {i : Int} : TyX K H (.int i) (.type "int") := .base (.int i)
theorem ty_lst {K : PySem.W.Frag} {H : Hp} {a : Addr} {xs : List V} (h : H a = some (.lst xs)) : TyX K H (.ref a) (.type "list") := .base (.lst h)
theorem ty_tup {K : PySem.W.Frag} {H : Hp} {a : Addr} {xs : List V} (h : H a = some (.tup xs)) : TyX K H (.ref a) (.type "tuple") := .base (.tup h)

theorem scal_ii {i j : Int} : scal (.int i) (.int j) = true := rfl
theorem scal_bb {i j : Bool} : scal (.bl i) (.bl j) = true := rfl
theorem scal_ss {i j : Str} : scal (.str i) (.str j) = true := rfl
theorem scal_nn : scal .non .non = true := rfl
theorem scal_ni {j : Int} : scal .non (.int j) = true := rfl
theorem scal_in {j : Int} : scal (.int j) .non = true := rfl
theorem scal_ns {j : Str} : scal .non (.str j) = true := rfl
theorem scal_sn {j : Str} : scal (.str j) .non = true := rfl
theorem scal_is {i : Int} {j : Str} : scal (.int i) (.str j) = true := rfl
theorem scal_si {i : Int} {j : Str} : scal (.str j) (.int i) = true := rfl

/-! == of lists of tuples -/
def pdT (d : List V) : PyData := .tuple (d.map pd)
theorem dp_tups {K : PySem.W.Frag} {H : Hp} : ∀ {xs : List V} {ds : List (List V)}, Tups K H xs ds → (∀ d ∈ ds, d.all isPd = true) → DpAll K H xs (ds.map pdT)
  | _, _, .nil, _ => .nil
  | _, _, .cons (b := d) ⟨a, e, h⟩ t, hd => by
    subst e
    exact .cons (dp_tup h (hd d List.mem_cons_self)) (dp_tups t fun d h => hd d (List.mem_cons_of_mem _ h))
theorem lay_tups : ∀ {ds : List (List V)}, (∀ d ∈ ds, d.all isPd = true) → PyData.canLayAll0 (ds.map pdT) = true
  | [], _ => rfl
  | d :: r, h => by
    show (PyData.canLayAll0 (d.map pd) && PyData.canLayAll0 (r.map pdT)) = true
    rw [pd_layAll (h d List.mem_cons_self), lay_tups fun d hd => h d (List.mem_cons_of_mem _ hd)]
    rfl
theorem depth_tups : ∀ ds : List (List V), PyData.depthAll (ds.map pdT) ≤ 1
  | [] => by show 0 ≤ 1; decide
  | d :: r => by
    show max (PyData.depthAll (d.map pd) + 1) (PyData.depthAll (r.map pdT)) ≤ 1
    rw [pd_depthAll]
    have := depth_tups r
    omega
theorem shaped_tups {ds : List (List V)} (h : ∀ d ∈ ds, d.all isPd = true) : SeqAt.shaped (.list (ds.map pdT)) = true := by
  have e : (PyData.list (ds.map pdT)).depth ≤ 64 := by
    show PyData.depthAll (ds.map pdT) + 1 ≤ 64
    have := depth_tups ds
    omega
  show ((PyData.canLayAll0 (ds.map pdT)) && decide ((PyData.list (ds.map pdT)).depth ≤ 64)) = true
  rw [lay_tups h, decide_eq_true e]
  rfl
theorem eqv_tups {ds : List (List V)} (h : ∀ d ∈ ds, d.all isPd = true) : PyData.eqv (.list (ds.map pdT)) (.list (ds.map pdT)) = true := SeqAt.eqv_refl (.list (ds.map pdT)) (show PyData.canLayAll0 (ds.map pdT) = true from lay_tups h)
theorem eq_tupsL {K : PySem.W.Frag} {H : Hp} {a b : Addr} {xs ys : List V} {ds : List (List V)} {Q : VK} (ha : SqL K H a xs) (hb : SqL K H b ys) (t : Tups K H xs ds) (u : Tups K H ys ds) (hd : ∀ d ∈ ds, d.all isPd = true) (q : Q (.bl true) H) : rEqD K (.ref a) (.ref b) H Q :=
  ⟨_, _, .lst ha (dp_tups t hd), .lst hb (dp_tups u hd), shaped_tups hd, shaped_tups hd, by rw [eqv_tups hd]; exact q⟩
theorem ne_tupsL {K : PySem.W.Frag} {H : Hp} {a b : Addr} {xs ys : List V} {ds : List (List V)} {Q : VK} (ha : SqL K H a xs) (hb : SqL K H b ys) (t : Tups K H xs ds) (u : Tups K H ys ds) (hd : ∀ d ∈ ds, d.all isPd = true) (q : Q (.bl false) H) : rNeD K (.ref a) (.ref b) H Q :=
  ⟨_, _, .lst ha (dp_tups t hd), .lst hb (dp_tups u hd), shaped_tups hd, shaped_tups hd, by rw [eqv_tups hd]; exact q⟩

/-! ### list + list, whoever holds them -/
def rCatR (K : PySem.W.Frag) : R2 := fun x y H Q => ∃ l b xs zs, x = .ref l ∧ y = .ref b ∧ SqL K H l xs ∧ SqL K H b zs ∧ xs.length + zs.length ≤ sizeLine ∧ New H (.lst (xs ++ zs)) fun p H2 => Q (.ref p) H2
theorem op_catS {X : Cx} {K : PySem.W.Frag} (h : X.K = K := by rfl) : OpR X (binaryOp .Add) (rCatR K) := by
  subst h
  intro pins s σ H x y v u Q I rx ry h
  obtain ⟨l, b, xs, zs, rfl, rfl, hH, hB, hz, q⟩ := h
  cases rx
  cases ry
  obtain ⟨its, r, ⟨⟨cls, dd, dt, sl⟩, n, e, hc, hd0, hd⟩, hz1⟩ := I.list hH
  obtain ⟨its2, r2, ⟨⟨cls2, dd2, dt2, sl2⟩, n2, e2, hc2, hd02, hd2⟩, hz2⟩ := I.list hB
  simp only at hc hd hc2 hd2
  subst hc hd hc2 hd2
  have hl := r.length
  have hl2 := r2.length
  have ea : its.toArray ++ its2.toArray = (its ++ its2).toArray := by simp
  refine concat_meets ⟨_, e, rfl⟩ ⟨_, e2, rfl⟩ noFill_list_add seq_list_add PySem.F.slot_list_add PySem.F.entry_list_add (PySem.F.args_list_add_2 _ _) (list_addW l b its.toArray its2.toArray n n2 dd dd2 sl sl2 (by rw [List.size_toArray, List.size_toArray]; omega)) ⟨e, e2, ?_⟩
  rw [ea]
  exact ⟨.ref _, _, I.lnew (t' := s.toks) (r.append r2) (by rw [List.length_append]; omega), rfl, q _ I.fresh⟩

/-! ### int(x), [x] * n, == of equal lists -/
def rInt1 : List V → Hp → VK → Prop := fun xs H Q => (∃ i, xs = [.int i] ∧ Q (.int i) H) ∨ ∃ k, xs = [.bl k] ∧ Q (.int (if k then 1 else 0)) H
theorem call_int1R {X : Cx} : CallR X (.type "int") rInt1 := call_int1
theorem rRep_n : rRep = fun x y H Q => ∃ l k xs, x = .ref l ∧ y = .int k ∧ H l = some (.lst xs) ∧ -(2 ^ 63) ≤ k ∧ k < 2 ^ 63 ∧ xs.length * k.toNat ≤ sizeLine ∧ New H (.lst (List.replicate k.toNat xs).flatten) fun p H2 => Q (.ref p) H2 := rfl
theorem eq_lst {K : PySem.W.Frag} {H : Hp} {a b : Addr} {xs : List V} {Q : VK} (ha : SqL K H a xs) (hb : SqL K H b xs) (hx : xs.all isPd = true) (q : Q (.bl true) H) : rEqD K (.ref a) (.ref b) H Q :=
  ⟨_, _, dp_lst ha hx, dp_lst hb hx, shaped_lst hx, shaped_lst hx, by rw [SeqAt.eqv_refl (.list (xs.map pd)) (show PyData.canLayAll0 (xs.map pd) = true from pd_layAll hx)]; exact q⟩
theorem ne_lst {K : PySem.W.Frag} {H : Hp} {a b : Addr} {xs : List V} {Q : VK} (ha : SqL K H a xs) (hb : SqL K H b xs) (hx : xs.all isPd = true) (q : Q (.bl false) H) : rNeD K (.ref a) (.ref b) H Q :=
  ⟨_, _, dp_lst ha hx, dp_lst hb hx, shaped_lst hx, shaped_lst hx, by rw [SeqAt.eqv_refl (.list (xs.map pd)) (show PyData.canLayAll0 (xs.map pd) = true from pd_layAll hx)]; exact q⟩
theorem cut_init (xs : List V) (x : V) : cutV (xs ++ [x]) none (some (-1)) = xs := by
  unfold cutV HT.sIx
  simp only [List.length_append, List.length_singleton, List.drop_zero, Nat.sub_zero]
  rw [if_pos (by decide), show (-1 + ((xs.length + 1 : Nat) : Int)).toNat = xs.length by omega, List.take_append_of_le_length (Nat.le_refl _), List.take_length]
theorem cut_mid (xs : List V) (i j : Nat) : cutV xs (some (i : Int)) (some (j : Int)) = (xs.drop i).take (j - i) := by
  unfold cutV
  rw [HT.sIx_nat, HT.sIx_nat]
  by_cases h : i ≤ xs.length
  · rw [Nat.min_eq_left h]
    by_cases h2 : j ≤ xs.length
    · rw [Nat.min_eq_left h2]
    · rw [Nat.min_eq_right (by omega), List.take_of_length_le (by rw [List.length_drop]; omega), List.take_of_length_le (by rw [List.length_drop]; omega)]
  · have e : min i xs.length = xs.length := Nat.min_eq_right (by omega)
    rw [e, List.drop_eq_nil_of_le (Nat.le_refl _), List.drop_eq_nil_of_le (show xs.length ≤ i by omega), List.take_nil, List.take_nil]
/-! ### len(set(xs)) of ints -/
def tLenSetS (K : PySem.W.Frag) (ta : TE) : TE := fun σ H Q => ta σ H fun x H1 => ∃ (l : Addr) (ns : List Int), x = .ref l ∧ SqL K H1 l (ns.map V.int) ∧ ns.length ≤ 4000 ∧ ∀ ds : List Int, ds.Nodup → (∀ k, k ∈ ds ↔ k ∈ ns) → Q (.int (ds.length : Nat)) H1
theorem firstMet_nd (val : Nat → Int) : ∀ i, (PyProof.Rows.firstMet val i).Nodup
  | 0 => List.nodup_nil
  | i + 1 => by
    rw [PyProof.Rows.firstMet_succ]
    unfold PyProof.Rows.step_dedup
    split
    · exact firstMet_nd val i
    · rename_i h
      rw [List.nodup_append]
      refine ⟨firstMet_nd val i, List.nodup_cons.mpr ⟨List.not_mem_nil, List.nodup_nil⟩, fun a ha b hb e => h (List.any_eq_true.mpr ⟨a, ha, ?_⟩)⟩
      rw [List.mem_singleton] at hb
      rw [e, hb]
      exact beq_self_eq_true _
theorem firstMet_mem (ns : List Int) (k : Int) : k ∈ PyProof.Rows.firstMet (fun i => ns.getD i 0) ns.length ↔ k ∈ ns := by
  have h := PyProof.Rows.firstMet_any (fun i => ns.getD i 0) ns.length k
  have e : (List.range ns.length).map (fun i => ns.getD i 0) = ns := by
    apply List.ext_getElem
    · rw [List.length_map, List.length_range]
    · intro i h1 h2
      rw [List.getElem_map, List.getElem_range, List.getD_eq_getElem?_getD, List.getElem?_eq_getElem h2]
      rfl
  rw [e] at h
  have mem : ∀ l : List Int, l.any (· == k) = true ↔ k ∈ l := fun l => by
    rw [List.any_eq_true]
    constructor
    · rintro ⟨x, hx, e⟩
      rw [← eq_of_beq e]
      exact hx
    · intro hk
      exact ⟨k, hk, beq_self_eq_true k⟩
  rw [← mem, ← mem, h]
theorem pe_lenSetS {X : Cx} {K : PySem.W.Frag} {a : Expr} {ta : TE} {p p2 q pos : Pos} (hg : Gl X "len") (hm : X.mg "len" = none) (hg2 : Gl X "set") (hm2 : X.mg "set" = none) (ha : PE X a ta) (hc : X.calm = true := by rfl)
    (na : starEach [a] X.env = (false, eval a X.env) :: starEach [] X.env := by rfl) (hK : X.K = K := by rfl) : PE X (.Call (.Name "len" p) [.Call (.Name "set" p2) [a] [] q] [] pos) (tLenSetS K ta) := by
  subst hK
  refine ⟨fun pins s σ H Q I h => ?_⟩
  refine Call_ (ld_blt I hg hm boot_len ?_)
  refine PyProof.Rows.callWith_builtin1 (PyProof.Rows.args_cons ?_ rfl) rfl rfl
  refine Call_ (ld_blt I hg2 hm2 boot_set ?_)
  refine PyProof.Rows.callWith_type1 (PyProof.Rows.args_cons (thn (ha.run pins s σ H _ I h) fun v s1 ⟨x, H1, I1, r1, q1⟩ => PyProof.Rows.args_nil ?_) na) na rfl
  obtain ⟨l, ns, rfl, hq, hl, q1⟩ := q1
  cases r1
  obtain ⟨its, r, pl, hz⟩ := I1.list hq
  have hlen : its.toArray.size = ns.length := by rw [List.size_toArray, ← r.length, List.length_map]
  refine call_set_list (I1.ok.hd hc) pl.isList (by simpa using RZ.intsAre_vals r) (by rw [hlen]; unfold scanBound; omega) fun h' tk hS hk => ?_
  refine PyProof.Rows.args_nil ?_
  rw [hlen] at hS
  have hlt := PyProof.Rows.firstMet_length_le (fun i => ns.getD i 0) ns.length
  have q2 := q1 (PyProof.Rows.firstMet (fun i => ns.getD i 0) ns.length) (firstMet_nd _ _) (firstMet_mem ns)
  generalize PyProof.Rows.firstMet (fun i => ns.getD i 0) ns.length = D at hS hlt q2
  obtain ⟨o, es, ep, t, ho, hex, hd, _, _, _, hf, hn⟩ := hS
  have I2 : Inv X pins σ H1 { s1 with heap := h', toks := tk } := I1.kept fun b o e => hk b o (Heap.lt_size e) e
  exact call_len_set ho hex hd hf (by rw [hn] <;> omega) ⟨.int D.length, H1, I2.tok _, ⟨_, by rw [hn]⟩, q2⟩
theorem eqV_int (a n : Int) : eqV (.int a) (.int n) = decide (a = n) := by
  unfold eqV
  rfl
theorem idx_at {D : List Int} {z : Int} (h : z ∈ D) : D[D.idxOf z]? = some z := by
  have hx := List.idxOf_lt_length_of_mem h
  rw [List.getElem?_eq_getElem hx, List.getElem_idxOf]
theorem idx_ne {D : List Int} {z : Int} (m : Nat) (hm : m < D.idxOf z) : D[m]? ≠ some z := fun e => by
  obtain ⟨h1, h2⟩ := List.getElem?_eq_some_iff.mp e
  have := List.not_of_lt_findIdx (p := (· == z)) (xs := D) (i := m) hm
  simp [h2] at this
/-! ### things that stay -/
inductive Th (K : PySem.W.Frag) (H : Hp) : V → String → Prop
  | int (i : Int) : Th K H (.int i) "int"
  | bl (b : Bool) : Th K H (.bl b) "bool"
  | non : Th K H .non "NoneType"
  | str (z : Str) : Th K H (.str z) "str"
  | lst {a : Addr} {xs : List V} (h : SqL K H a xs) : Th K H (.ref a) "list"
  | tup {a : Addr} {xs : List V} (h : SqT K H a xs) : Th K H (.ref a) "tuple"
  | dK {a : Addr} {xs : List (Key × V)} (h : H a = some (.dK xs)) : Th K H (.ref a) "dict"
theorem Th.thg {K : PySem.W.Frag} {H : Hp} {x : V} {T : String} (t : Th K H x T) : Thg K H x T := by
  cases t with
  | int i => exact thg_int
  | bl b => exact thg_bl
  | non => exact thg_non
  | str z => exact thg_str
  | lst h => exact thg_seq h
  | tup h => exact thg_tup h
  | dK h => exact thg_dK h
theorem Th.same {K : PySem.W.Frag} {H H' : Hp} {x : V} {T : String} (t : Th K H x T) (s : Same H H') : Th K H' x T := by
  cases t with
  | int i => exact .int i
  | bl b => exact .bl b
  | non => exact .non
  | str z => exact .str z
  | lst h => exact .lst (s.seq h)
  | tup h => exact .tup (Same.seqT s h)
  | dK h => exact .dK (s _ _ h)
theorem cut_last (xs : List V) : cutV xs (some (-1)) none = xs.drop (xs.length - 1) := by
  unfold cutV HT.sIx
  dsimp only
  rw [if_pos (by decide), show (-1 + (xs.length : Int)).toNat = xs.length - 1 by omega, List.take_of_length_le (by rw [List.length_drop]; omega)]
theorem tDNewK_n : tDNewK = fun _ H Q => New H (.dK []) fun p H2 => Q (.ref p) H2 := rfl
def rStrI : List V → Hp → VK → Prop := fun xs H Q => ∃ i : Int, xs = [.int i] ∧ i.natAbs.log2 < 1920 ∧ Q (.str (toString i)) H
theorem call_strI {X : Cx} : CallR X (.type "str") rStrI := call_str_int
end Rb

set_option Elab.async false
set_option linter.all false
set_option maxRecDepth 100000
set_option maxHeartbeats 4000000
/-! own exceptions: made, raised, caught -/
namespace Rx
open PySem PySem.Spec PyProof.Rows L2 Rb
/-! ### RoomError.__init__(self, ..), RoomError a class without __init__ -/
section
variable {X : Cx} {o e : Expr} {es : List Expr} {to te : TE} {ta : TA} {f x : Str} {p p' p1 p2 pos : Pos}
theorem pe_roinit {K : PySem.W.Frag} {pl : Sem Bool} {CR : Addr} {mc : Value} (hg : Gl X x) (hm : X.mg x = some (.ref CR)) (r : ClX.CRead X.K CR mc) (vV : PySem.W.findCls X.K (.ref CR) mc "__init__" = some (.val (.builtin "ValueError.__init__"))) (ha : PA X (e :: es) ta)
    (hdb : (x == ("__debug__" : Str)) = false := by decide)
    (hc : eval (.Call (.Attribute (.Name x p1) "__init__" p2) (e :: es) [] pos) X.env = (do
      let ov ← eval (.Name x p1) X.env
      standAt p2.atName
      let (f, first) ← holding [ov] (getMethod ov "__init__" pl)
      callWith pos f first (backTo pos (starEach (e :: es) X.env)) (backToKw pos (keywordEach [] X.env))) := by rfl)
    (he : starEach (e :: es) X.env = (false, eval e X.env) :: starEach es X.env := by rfl) (hpl : (backTo pos (starEach es X.env)).any (·.1) = false := by rfl) (hK : X.K = K := by rfl) :
    PE X (.Call (.Attribute (.Name x p1) "__init__" p2) (e :: es) [] pos) (tVeI K ta) := by
  subst hK
  refine ⟨fun pins s σ H Q I h => ?_⟩
  refine PySem.W.methodCall_KW (ld_glob I hg hm ?_ hdb) hc
  refine PySem.W.method_cls I.kIn r.ga (PySem.W.cls_value I.kIn r.rd vV (by decide +kernel) ?_)
  show wpAny _ _ (callWith pos (Value.builtin "ValueError.__init__") [] (backTo pos (starEach (e :: es) X.env)) []) _ _ _
  refine PyProof.Rows.callWith_method1 (thn (ha.run pos pins _ σ H _ (I.tok _) h) fun us s1 ⟨vs, H1, I1, r1, a, C, ws, ev, hl, T, ea, q⟩ => ?_) he hpl
  subst ev
  cases r1 with
  | @cons _ u0 _ ur ra rw' =>
    obtain rfl : u0 = Value.ref a := ra
    have hlen : ur.length ≤ sizeLine := by
      rw [← Paired.length rw', sizeLine_eq]
      omega
    exact oinit_ok T I1 ea hlen fun s' J => ⟨.non, H1, J, rfl, q⟩
theorem ps_ostK {K : PySem.W.Frag} (ho : PE X o to) (he : PE X e te) (hs : swapsWith e (some (.Attribute o f p')) pos.line X.env = pure false := by rfl) (hK : X.K = K := by rfl) : PS X (.Assign [.Attribute o f p'] e pos) (tOst K f to te) := by
  subst hK
  exact ps_ost ho he hs
end
/-! ### an exception's class, with its __init__ -/
/-- what the text says of the exception class at C -/
structure XcK (K : PySem.W.Frag) (C : Addr) : Prop where
  oc : OexC K C
  xf : XfC K C
structure Xn (P : Program) (w : World) (K : PySem.W.Frag) (mg : Str → Option Value) (base : Heap) (k : Nat) (C : Addr) (x : Str) (ps : List Str) (sp : Sp) : Prop where
  cls : XcK K C
  ex : ∃ f fd, PySem.W.findIn K (.ref C) "__init__" = some (some (.ref f)) ∧ PySem.W.typeIn K (.ref f) = some (.type "function") ∧ FnOk P w K mg base CX0 k f fd ps sp ∧ mg x = some (.ref C) ∧ Binds K fd ps []
/-- the exception's fields -/
def XObj (H : Hp) (d : Addr) (fs : List (Str × V)) : Prop := H d = some (.xd fs)
def spX (C : Addr) (ns : List Str) : Sp := fun vs H Q _ => ∃ (a : Addr) (ys : List V), vs = .ref a :: ys ∧ ys.length = ns.length ∧ H a = some (exo a C none) ∧ ∀ dx H1, H dx = none → dx ≠ a → H1 a = some (exo a C (some dx)) → H1 dx = some (exd dx ((ns.zip ys).reverse)) → (∀ b, b ≠ a → b ≠ dx → H1 b = H b) → Q .non H1
/-- raise C(e, ..): the fields by name -/
def tRz (C : Addr) (ns : List Str) (ta : TA) (W : Value → Option Addr → L2.St → Hp → Prop) : TS := fun _ σ H => ta σ H fun ys H1 => ys.length = ns.length ∧ ∀ d H2, H1 d = none → Same H1 H2 → H2 d = some (.xd (ns.zip ys).reverse) → W (.ref C) (some d) σ H2
/-- a reading of arguments that may be weakened -/
def tWeak (ta : TA) : TA := fun σ H R => ∃ R0 : List V → Hp → Prop, ta σ H R0 ∧ ∀ ys H1, R0 ys H1 → R ys H1
theorem pa_weak {X : Cx} {es : List Expr} {ta : TA} (ha : PA X es ta) : PA X es (tWeak ta) := by
  refine ⟨fun pos pins s σ H Q I h => ?_⟩
  obtain ⟨R0, h0, hi⟩ := h
  exact thn (ha.run pos pins s σ H R0 I h0) fun us s1 ⟨vs, H1, I1, r1, q1⟩ => ⟨vs, H1, I1, r1, hi _ _ q1⟩
theorem ps_rz {X : Cx} {k : Nat} {C : Addr} {x : Str} {ps ns : List Str} {e : Expr} {es : List Expr} {ta : TA} {p pos pos' : Pos} {W : WX} (N : Xn X.prog X.w X.K X.mg X.base k C x ps (spX C ns)) (hc : X.calm = true) (tk : Takes X W) (hr : Room (k + 1) X.A) (hg : Gl X x) (hx : Passes CX0 X (fun _ _ _ => False)) (ha : PA X (e :: es) ta)
    (hns : ns.length ≤ 900 := by decide) (hdb : (x == ("__debug__" : Str)) = false := by decide) (he : starEach (e :: es) X.env = (false, eval e X.env) :: starEach es X.env := by rfl) (hpl : (backTo pos (starEach es X.env)).any (·.1) = false := by rfl) :
    PS X (.Raise (some (.Call (.Name x p) (e :: es) [] pos)) none pos') (tRz C ns ta W) := by
  obtain ⟨f, fd, iC, tI, F, hm, hb⟩ := N.ex
  have mk : PMk X (.Call (.Name x p) (e :: es) [] pos) (tMkO C (spX C ns) [] (tWeak ta)) := pmk_oex N.cls.oc iC tI F hr hb .nil hx hg hm (pa_weak ha) hdb he hpl
  have ps := ps_raise (W := W) (pos := pos') hc tk mk
  refine ⟨fun pins s σ H D I h => ps.run pins s σ H D I ?_⟩
  refine ⟨_, h, fun ys H1 ⟨hl, q⟩ => ⟨by omega, fun a na => ⟨a, ys, by rw [List.append_nil], hl, upd_same, fun dx H2 nd nda hx hd hk => ⟨rfl, dx, _, hx, hd, ?_, ?_⟩⟩⟩⟩
  · rw [upd_ne nda] at nd
    exact nd
  · rw [upd_ne nda] at nd
    refine q dx _ nd (fun b o hb => ?_) upd_same
    have nbd := ne_of_none hb nd
    have nba := ne_of_none hb na
    rw [upd_ne nbd, del_ne nba, hk b nba nbd, upd_ne nba]
    exact hb
/-! ### calls that may raise, what is raised told at the caller's slots -/
theorem passF {X : Cx} : Passes (L2.CX X.prog X.w) X E0 := fun _ _ _ _ _ _ _ ⟨_, _, _, _, _, _, _, _, _, _, _, _, q⟩ => q.elim
section
variable {X : Cx} {CX : CXT} {k : Nat} {C : Addr} {ps : List Str} {sp : Sp} {E : L2.St → XK} {x m : Str} {p pos apos : Pos} {e o : Expr} {es : List Expr} {t : TA} {ta : TE}
theorem pe_cdS (D : Dn X.prog X.w X.K X.mg X.base CX k x ps sp) (hr : Room k X.A) (hg : Gl X x) (hx : ∀ σ, PassesAt CX X σ (E σ)) (ha : PA X (e :: es) t)
    (hdb : (x == ("__debug__" : Str)) = false := by decide) (he : starEach (e :: es) X.env = (false, eval e X.env) :: starEach es X.env := by rfl) (hpl : (backTo pos (starEach es X.env)).any (·.1) = false := by rfl) :
    PE X (.Call (.Name x p) (e :: es) [] pos) (tCallS sp E t) := by
  obtain ⟨f, fd, F, m, kp, b⟩ := D.ex
  exact pe_callS F hr hg m kp b hx ha hdb he hpl
def tMethX (C : Addr) (m : Str) (sp : Sp) (E : L2.St → XK) (ta : TE) (t : TA) : TE := fun σ H Q => ta σ H fun x H1 => ∃ a dx fs, x = .ref a ∧ H1 a = some (.ins C dx fs) ∧ fs.lookup m = none ∧ t σ H1 fun vs H2 => sp (x :: vs) H2 Q (E σ)
theorem pe_mdS {pl : Sem Bool} (ho : PE X o ta) (N : Nn X.prog X.w X.K X.mg X.base CX k C m ps sp) (hr : Room k X.A) (hx : ∀ σ, PassesAt CX X σ (E σ)) (ha : PA X (e :: es) t)
    (hst : starEach (e :: es) X.env = (false, eval e X.env) :: starEach es X.env := by rfl) (hpl : (backTo pos (starEach es X.env)).any (·.1) = false := by rfl)
    (ht : eval (.Call (.Attribute o m apos) (e :: es) [] pos) X.env = (do
      let ov ← eval o X.env
      standAt apos.atName
      let (f, first) ← holding [ov] (getMethod ov m pl)
      callWith pos f first (backTo pos (starEach (e :: es) X.env)) (backToKw pos (keywordEach [] X.env))) := by rfl) : PE X (.Call (.Attribute o m apos) (e :: es) [] pos) (tMethX C m sp E ta t) := by
  obtain ⟨f, fd, hm, F, hb⟩ := N.ex
  refine ⟨fun pins s σ H Q I h => ?_⟩
  refine PySem.W.methodCall_KW (pl := pl) (thn (ho.run pins s σ H _ I h) fun u s1 ⟨x, H1, I1, rx, a, dx, fs, ex, ea, l, q⟩ => ?_) ht
  subst ex
  obtain rfl : u = Value.ref a := rx
  refine getmeth_ok I1 ea N.cl hm l ?_
  refine PySem.W.callWith_K (first := [.ref a]) (h₀ := X.base) I.ok.mod.kin hm.kp (thn (ha.run pos pins s1 σ H1 _ I1 q) fun us s2 ⟨vs, H2, I2, r, q2⟩ => ⟨I2.kIn, ?_⟩) hst hpl
  exact run_fnS (us := .ref a :: us) (vs := .ref a :: vs) F hr hb (hx σ) I2 (.cons rfl r) q2
def tMakeX (C : Addr) (sp : Sp) (E : L2.St → XK) (t : TA) : TE := fun σ H Q => t σ H fun vs H1 => Made H1 C fun x H2 => sp (.ref x :: vs) H2 (fun v H3 => v = .non ∧ Q (.ref x) H3) (E σ)
theorem run_makeS {pins : List (Addr × Obj)} {σ : L2.St} {H : Hp} {s : Shared} {Q : VK} {f : Addr} {fd : FuncData} {us : List Value} {vs : List V} (M : Mk X.K C f) (F : FnOk X.prog X.w X.K X.mg X.base CX k f fd ps sp) (hr : Room (k + 1) X.A) (hb : Binds X.K fd ps [])
    (hx : PassesAt CX X σ (E σ)) (I : Inv X pins σ H s) (r : Vals vs us)
    (h : ∀ x dx, H x = none → H dx = none → dx ≠ x → sp (.ref x :: vs) (upd (upd H dx (.own x)) x (.ins C dx [])) (fun v H2 => v = .non ∧ Q (.ref x) H2) (E σ)) :
    wpAny (model X.prog X.w) X.A (call (.ref C) us) (EP X pins σ Q) X.xe s := by
  have hq := h (s.heap.objs.size + 1) s.heap.objs.size (I.hok.fresh (Nat.le_succ _)) (I.hok.fresh (Nat.le_refl _)) (Nat.ne_of_lt (Nat.lt_succ_self _))
  have I2 := Inv.made (C := C) I
  have r2 : Vals (V.ref (s.heap.objs.size + 1) :: vs) (Value.ref (s.heap.objs.size + 1) :: us) := .cons rfl r
  have hl : (Value.ref (s.heap.objs.size + 1) :: us).length = ps.length := by
    have e := r2.length
    rw [F.len _ _ _ _ hq] at e
    exact e.symm
  have b := hb { s with heap := _, toks := _ } (Value.ref (s.heap.objs.size + 1) :: us) I2.kIn (by rw [List.append_nil]; exact hl)
  rw [List.append_nil] at b
  refine wpAny_call (make_map (f := f) I.kIn M.makes M.init (beq_iff_eq.mp M.fn) (codeAny_mono (F.run _ X.stack _ _ ⟨Value.ref (s.heap.objs.size + 1) :: us, []⟩ (Value.ref (s.heap.objs.size + 1) :: us) _ _ (E σ) (hr.make C us [])
    (I2.env0.make C us []) b r2 hq) fun r s' hq' => ?_))
  cases r with
  | error e => exact hx pins _ _ e s' I2 hq'
  | ok fl =>
    cases fl with
    | ret u =>
      obtain ⟨v, H', I3, rv, ev, q3⟩ := I2.after hq'
      subst ev
      exact ⟨rv, ⟨V.ref (s.heap.objs.size + 1), H', I3, rfl, q3⟩⟩
    | next => exact False.elim hq'
    | brk => exact False.elim hq'
    | cont => exact False.elim hq'
theorem pe_mkS (M : Mn X.prog X.w X.K X.mg X.base CX k C x ps sp) (hr : Room (k + 1) X.A) (hg : Gl X x) (hx : ∀ σ, PassesAt CX X σ (E σ)) (ha : PA X (e :: es) t)
    (hdb : (x == ("__debug__" : Str)) = false := by decide) (he : starEach (e :: es) X.env = (false, eval e X.env) :: starEach es X.env := by rfl) (hpl : (backTo pos (starEach es X.env)).any (·.1) = false := by rfl) :
    PE X (.Call (.Name x p) (e :: es) [] pos) (tMakeX C sp E t) := by
  obtain ⟨f, fd, mk, F, hm, b⟩ := M.ex
  refine ⟨fun pins s σ H Q I h => ?_⟩
  refine wpAny_Call_Name_kw (ld_glob I hg hm ?_ hdb)
  refine PySem.W.callWith_K (h₀ := X.base) I.ok.mod.kin mk.kp (thn (ha.run pos pins s σ H _ I h) fun us s1 ⟨vs, H1, I1, r, q⟩ => ⟨I1.kIn, ?_⟩) he hpl
  exact run_makeS mk F hr b (hx σ) I1 r q
end
/-! ### a caught exception's field -/
def tXfA (K : PySem.W.Frag) (a : Addr) (cls : Value) (d : Option Addr) (f : Str) (te : TE) : TE := fun σ H Q => te σ H fun x H1 => x = .ref a ∧ ∃ C : Addr, cls = .ref C ∧ XfC K C ∧ PySem.W.findIn K (.ref C) f = some none ∧ ∃ (dd : Addr) (fs : List (Str × V)) (v : V), d = some dd ∧ H1 dd = some (.xd fs) ∧ fs.lookup f = some v ∧ Q v H1
theorem pe_xfA {X : Cx} {K : PySem.W.Frag} {a : Addr} {oe : Obj} {cls : Value} {d : Option Addr} {pn : List (Addr × Obj)} {e : Expr} {te : TE} {pos : Pos} {n : Str} (hz : Zc cls d oe) (hf : ∃ vs, oe.data = .fields vs) (he : PE (X.suite a ((a, oe) :: pn)) e te) (hb : attributeBase e n X.env (eval e X.env) = eval e X.env := by rfl) (hK : X.K = K := by rfl) :
    PE (X.suite a ((a, oe) :: pn)) (.Attribute e n pos) (tXfA K a cls d n te) := by
  subst hK
  refine ⟨fun pins s σ H Q I h => ?_⟩
  refine attr_of hb (thn (he.run pins s σ H _ I h) fun u s1 hh => ?_)
  obtain ⟨x, H1, I1, rx, ex, C, ec, T, hno, dd, fs, v, ed, ea, l, q⟩ := hh
  subst ex
  obtain rfl : u = Value.ref a := rx
  subst ec
  subst ed
  obtain ⟨ha, _⟩ := I1.pin (a, oe) (List.mem_append_left _ List.mem_cons_self)
  obtain ⟨vs, hd⟩ := hf
  have hx : ObjOk X.prog X.w H1 s1.heap dd (.xd fs) := I1.hok dd _ ea
  obtain ⟨mA, hns, hr⟩ := hx
  obtain ⟨od, ho, hl⟩ := lookIn_ns hns
  obtain ⟨u, hu, ru⟩ := RelO.some_of (v := v) (o := mA n) (by rw [← l]; exact hr n)
  have J : PySem.W.InstAt s1.heap a oe C (some od) := ⟨ha, hz.1, by unfold PySem.W.notCls; rw [hd] <;> rfl, by rw [hz.2]; exact ho⟩
  exact HandSPX.exc_get I1.kIn J T.ga T.gg T.exC (PySem.W.findObj_own T.hdC hno rfl (by rw [hl, hu])) (handed_of ru) ⟨v, H1, I1.tok _, ru, q⟩
end Rx
namespace Rx
open PySem PySem.Spec PyProof.Rows L2 Rb
theorem exm_of2 {K : PySem.W.Frag} {C : Addr} {cls : Value} {b : Bool} (h1 : PySem.W.subIn K (.ref C) (.type "BaseException") = some true) (hdct : PySem.W.hasDictIn K C = true) (ht : PySem.W.typeIn K (.ref C) = some (.type "type")) (h4 : PySem.W.subIn K cls (.ref C) = some b) : PySem.W.exmOne K cls (.ref C) = some b := PySem.W.exm_ref h1 hdct ht h4
end Rx
namespace Rx
open PySem PySem.Spec PyProof.Rows L2 Rb
/-! ### o[a:c] = ys -/
def gSlS (to tl th : TE) : TG := fun v σ H Q => to σ H fun x H1 => tl σ H1 fun a H2 => th σ H2 fun c H3 => ∃ (l b : Addr) (xs ys : List V) (i j : Int), x = .ref l ∧ v = .ref b ∧ a = .int i ∧ c = .int j ∧ H3 l = some (.lst xs) ∧ H3 b = some (.lst ys) ∧ l ≠ b ∧ 0 ≤ i ∧ i ≤ j ∧ j ≤ xs.length ∧
  xs.length + ys.length ≤ sizeLine ∧ Upd H3 l (.lst (xs.take i.toNat ++ ys ++ xs.drop j.toNat)) fun H4 => Q σ H4
theorem pg_slset {X : Cx} {o lo hi : Expr} {to tl th : TE} {p2 pos : Pos} (ho : PE X o to) (hl : PE X lo tl) (hh : PE X hi th)
    (ha : ∀ v, assign (.Subscript o (.Slice (some lo) (some hi) none p2) pos) X.env v = (do
      let ov ← holding [v] (eval o X.env)
      let iv ← holding [v, ov] (eval (.Slice (some lo) (some hi) none p2) X.env)
      standAt pos
      holding [v, ov, iv] (setItem ov iv v)
      release [iv, v, ov] []) := by intro _; rfl) : PG X (.Subscript o (.Slice (some lo) (some hi) none p2) pos) (gSlS to tl th) := by
  refine ⟨fun pins s σ H v u Q I r h => ?_⟩
  rw [ha]
  refine wpAny_bind (wpAny_holding (thn (ho.run pins s σ H _ I h) fun ov s1 ⟨x, H1, I1, r1, q1⟩ => ?_))
  refine wpAny_bind (wpAny_holding ?_)
  refine wpAny_Slice ?_
  rw [evalPart_some]
  refine thn (hl.run pins s1 σ H1 _ I1 q1) fun vl s2 ⟨a, H2, I2, pl, q2⟩ => ?_
  rw [evalPart_some]
  refine thn (hh.run pins s2 σ H2 _ I2 q2) fun vu s3 ⟨c, H3, I3, pu, q3⟩ => ?_
  rw [evalPart_none]
  refine wpAny_pure ?_
  obtain ⟨l, b, xs, ys, i, j, rfl, rfl, rfl, rfl, hl3, hb3, ne, h0, hij, hj, hz, q⟩ := q3
  cases r
  cases r1
  have I4 : Inv X pins σ H3 { s3 with heap := s3.heap.push { cls := .type "slice", data := .fields #[vl, vu, .none] } } := I3.kept (t' := s3.toks) fun b ob q => Heap.get?_push_of_some _ q
  refine wpAny_bind (wpAny_standAt (wpAny_bind (wpAny_holding ?_)))
  refine set_slice (s := { s3 with heap := s3.heap.push { cls := .type "slice", data := .fields #[vl, vu, .none] } }) I4 hl3 hb3 ne (Heap.IsSliceOf.new ..) pl pu h0 hij hj hz fun s5 I5 => ?_
  exact wpAny_release ⟨σ, _, I5, q⟩
end Rx
namespace Rx
open PySem PySem.Spec PyProof.Rows L2 Rb
theorem Loop.rangeC {lo c : Int} {n : Nat} {g : TG} {tb : TS} {D : Ends} {σ : L2.St} {H : Hp} (Pv : Nat → L2.St → Hp → Prop) (h0 : Pv 0 σ H)
    (hs : ∀ i σ H, i < n → Pv i σ H → g (.int (lo + (i : Nat) * c)) σ H fun σ2 H2 => tb { D with nx := Pv (i + 1), ct := Pv (i + 1), bk := D.nx } σ2 H2) (hd : ∀ σ H, Pv n σ H → D.nx σ H) : Loop (Itc lo c n) g tb D σ H := for_rangeC Pv h0 hs hd
/-! heaps that keep all but some objects -/
def OffS (S : List Addr) (H H' : Hp) : Prop := ∀ b o, b ∉ S → H b = some o → H' b = some o
theorem OffS.refl {S : List Addr} {H : Hp} : OffS S H H := fun _ _ _ h => h
theorem OffS.trans {S : List Addr} {H H1 H2 : Hp} (p : OffS S H H1) (q : OffS S H1 H2) : OffS S H H2 := fun b o n h => q b o n (p b o n h)
theorem OffS.same {S : List Addr} {H H1 : Hp} (s : Same H H1) : OffS S H H1 := fun b o _ h => s b o h
theorem OffS.off {S : List Addr} {a : Addr} {H H1 : Hp} (o : Off a H H1) (h : a ∈ S) : OffS S H H1 := fun b u n e => o b u (fun z => n (z ▸ h)) e
theorem OffS.toSame {S : List Addr} {H0 H H1 : Hp} (s : Same H0 H) (o : OffS S H H1) (hn : ∀ a ∈ S, H0 a = none) : Same H0 H1 := fun b u e => o b u (fun m => by rw [hn b m] at e; cases e) (s b u e)
end Rx

set_option Elab.async false
set_option linter.all false
set_option maxRecDepth 100000
set_option maxHeartbeats 4000000
/-! texts -/
namespace Tx
open PySem PySem.Spec PyProof.Rows L2 Rb SX
def wds (ws : List (List Nat)) : List V := ws.map fun w => V.str (S w)
theorem wds_eq (ws : List (List Nat)) : (ws.map S).map V.str = wds ws := by
  rw [List.map_map]
  rfl
def rJoinS (K : PySem.W.Frag) : V → List V → Hp → VK → Prop := fun x xs H Q => ∃ (a : List Nat) (p : Addr) (ys : List (List Nat)), x = .str (S a) ∧ xs = [.ref p] ∧ (SqL K H p (wds ys) ∨ SqT K H p (wds ys)) ∧ (ys.map (·.length)).sum + ys.length * a.length ≤ 16777216 ∧ Q (.str (S (TL.joinL a ys))) H
theorem mt_joinS {X : Cx} {K : PySem.W.Frag} (h : X.K = K := by rfl) : MtR X "str.join" (rJoinS K) := by
  subst h
  intro pins s σ H x xs v us Q I rx rs q
  obtain ⟨a, p, ys, ex, es, hp, hz, q⟩ := q
  refine mt_join pins s σ H x xs v us Q I rx rs ⟨S a, p, ys.map S, ex, es, ?_, ?_, ?_⟩
  · rw [wds_eq]
    exact hp
  · rw [lens, List.length_map, S_len]
    exact hz
  · rw [join_S]
    exact q
def rSplitS : V → List V → Hp → VK → Prop := fun x xs H Q => ∃ (a b : List Nat), x = .str (S a) ∧ xs = [.str (S b)] ∧ b ≠ [] ∧ b.all (· < 256) = true ∧ a.length ≤ 100000 ∧ New H (.lst (wds (TL.spl b 0 [] a))) fun p H2 => Q (.ref p) H2
theorem mt_splitS {X : Cx} : MtR X "str.split" rSplitS := by
  intro pins s σ H x xs v us Q I rx rs q
  obtain ⟨a, b, ex, es, hb, hk, hz, q⟩ := q
  refine mt_split pins s σ H x xs v us Q I rx rs ⟨S a, S b, ex, es, ?_, ?_, ?_⟩
  · rw [S_len]
    cases b with
    | nil => exact absurd rfl hb
    | cons c r => rfl
  · rw [S_len, sizeLine_eq]
    omega
  · rw [split_S hb hk]
    intro p np
    rw [wds_eq]
    exact q p np
theorem inV_str (n : List Nat) : ∀ ws : List (List Nat), inV (.str (S n)) (wds ws) = decide (n ∈ ws)
  | [] => rfl
  | a :: r => by
    have e : inV (.str (S n)) (wds (a :: r)) = (eqV (.str (S a)) (.str (S n)) || inV (.str (S n)) (wds r)) := rfl
    rw [e, inV_str n r]
    have e2 : eqV (.str (S a)) (.str (S n)) = decide (a = n) := by
      have : eqV (.str (S a)) (.str (S n)) = decide (S a = S n) := by
        unfold eqV
        rfl
      rw [this]
      by_cases h : a = n
      · rw [decide_eq_true h, decide_eq_true (congrArg S h)]
      · rw [decide_eq_false h, decide_eq_false fun g => h (S_inj g)]
    rw [e2]
    by_cases h : a = n
    · subst h
      simp
    · simp [h, Ne.symm h]
theorem flat_wds : ∀ ws : List (List Nat), (wds ws).all flatV = true
  | [] => rfl
  | _ :: r => flat_wds r
theorem str_S (z : Str) : z = S z.cps.toList := (S_tl z).symm
theorem pe_gr {X : Cx} {x : Str} {a : Addr} {pos : Pos} (hg : Gl X x) (hm : X.mg x = some (.ref a)) (hd : (x == ("__debug__" : Str)) = false := by decide) : PE X (.Name x pos) (tC (.ref a)) := pe_glob (v := .ref a) hg hm rfl hd
theorem Loop.strL {l : List Nat} {g : TG} {tb : TS} {D : Ends} {σ : L2.St} {H : Hp} (Pv : Nat → L2.St → Hp → Prop) (h0 : Pv 0 σ H)
    (hs : ∀ i c σ H, l[i]? = some c → Pv i σ H → g (.str ⟨#[c]⟩) σ H fun σ2 H2 => tb { D with nx := Pv (i + 1), ct := Pv (i + 1), bk := D.nx } σ2 H2) (hd : ∀ σ H, Pv l.length σ H → D.nx σ H) : Loop (Its (S l)) g tb D σ H :=
  Loop.str (z := S l) Pv h0 (fun i c σ H h p => hs i c σ H (by simpa using h) p) (fun σ H p => hd σ H (by simpa using p))
theorem Cmp.pureS {l : List Nat} {j : Nat} {te : TE} {vs : List Nat} {σ : L2.St} {H1 : Hp} {Q : VK} (f : Nat → V) (hz : l.length ≤ 100000) (hw : ∀ x, wipe ((wipe σ vs).set j (some x)) vs = wipe σ vs)
    (he : ∀ c H2 (R : VK), c ∈ l → Same H1 H2 → (∀ H3, Same H2 H3 → R (f c) H3) → te ((wipe σ vs).set j (some (.str ⟨#[c]⟩))) H2 R)
    (hd : ∀ d H2, H1 d = none → Same H1 H2 → H2 d = some (.lst (l.map f)) → Q (.ref d) H2) : Cmp (Its (S l)) (gName j) tYes te vs σ H1 Q := by
  intro D nD
  refine ⟨fun i m H => m = l.length - i ∧ i ≤ l.length ∧ Same H1 H ∧ H D = some (.lst ((l.take i).map f)), ⟨l.length, rfl, Nat.zero_le _, same_new nD, upd_same⟩, ?_⟩
  rintro i m H ⟨rfl, hi, s2, h2⟩
  have hsz : (S l).cps.size = l.length := by simp
  by_cases hlt : i < l.length
  · refine .inr ⟨show i < (S l).cps.size by omega, fun H' => Same H1 H' ∧ H' D = some (.lst ((l.take (i + 1)).map f)), fun H' ⟨p1, p2⟩ => ⟨l.length - (i + 1), by omega, rfl, hlt, p1, p2⟩, fun x H' y => ?_⟩
    obtain ⟨e, c, hc, ex⟩ := y
    subst e ex
    have hx : l[i]? = some c := by simpa using hc
    refine ⟨hw _, he c _ _ (List.mem_of_getElem? hx) s2 fun H3 s3 => ?_⟩
    refine ⟨_, s3 _ _ h2, sz100l (by rw [List.length_map, List.length_take]; omega), Same.off (s2.trans s3) nD Off.upd, ?_⟩
    rw [upd_same, take_snoc hx, List.map_append]
    rfl
  · have e : i = l.length := by omega
    subst e
    rw [List.take_length] at h2
    exact .inl ⟨show (S l).cps.size ≤ l.length by omega, hd D H nD s2 h2⟩
theorem takes0F {X : Cx} : Takes X (fun _ _ _ _ => False) := takes0
end Tx

set_option Elab.async false
set_option linter.all false
set_option maxRecDepth 100000
set_option maxHeartbeats 4000000
/-! defs that are called where nothing of a repr is under way; repr -/
namespace Rg
open PySem PySem.Spec PyProof.Rows L2 Rb Rx
structure FnOkG (P : Program) (w : World) (K : PySem.W.Frag) (mg : Str → Option Value) (base : Heap) (CX : CXT) (k : Nat) (f : Addr) (fd : FuncData) (ps : List Str) (sp : Sp) : Prop where
  len : ∀ vs H Q E, sp vs H Q E → vs.length = ps.length
  run : ∀ (A : Around) (outer : List Env) (s : Shared) (H : Hp) (args : Args) (us : List Value) (vs : List V) (Q : VK) (E : XK), Room k A → A.guards = some [] → Env0 P w K mg base A outer s H → BindsTo s fd args (ps.zip us) → Vals vs us → sp vs H Q E →
    codeAny (model P w) A (.call (.ref f) args) (CR CX outer P w H s Q E) s
theorem fn_ofG {CX : CXT} {P : Program} {w : World} {K : PySem.W.Frag} {mg : Str → Option Value} {base : Heap} {k : Nat} {f : Addr} {name qual : Str} {params : Arguments} {body : List Stmt} {scope : Scope} {dV kV doc pm cdv ct oc : Value} {an od : Option Addr}
    {osl : Array (Option Value)} {N ps : List Str} {sp : Sp} (lk : K.lookup f = some ⟨oc, od, .func (PySem.W.fnOf name qual params body scope dV kV doc pm an cdv ct), osl⟩) (hcd : PySem.W.codeIn K cdv qual = true) (S : FnScope N ps scope)
    (len : ∀ vs H Q E, sp vs H Q E → vs.length = ps.length)
    (hbody : ∀ (A : Around) (outer : List Env) (s : Shared) (H : Hp) (vs : List V) (Q : VK) (E : XK), Room k (A.deeper (envOfC qual scope s.heap.objs.size f cdv)) → A.guards = some [] → sp vs H Q E →
      ∃ t, PSs (cxOf CX P w K mg base N qual scope f cdv A outer s H E) body t ∧ t { nx := fun _ H' => Q .non H', rt := Q } (start N vs) H) :
    FnOkG P w K mg base CX (k + 1) f (PySem.W.fnOf name qual params body scope dV kV doc pm an cdv ct) ps sp := by
  refine ⟨len, fun A outer s H args us vs Q E hr hA e0 hb r hsp => ?_⟩
  have hl := len _ _ _ _ hsp
  have KX : K.In s.heap := e0.mod.kin.keeps fun b o e => (e0.bs b o e).1
  have lim : s.heap.NoLimit := e0.mod.nolimit.keeps fun b o e => (e0.bs b o e).1
  have hkind : ∀ y ∈ ps.zip us, scope.names.lookup y.1 = some .local ∨ (scope.names.lookup y.1 = some .cell ∧ ((cellsFrom (s.heap.objs.size + 1) scope.names []).lookup y.1).isSome = true) := fun ⟨n, v⟩ hy => by
    rcases S.par n (List.of_mem_zip hy).1 with q | q
    · exact .inl q
    · exact .inr ⟨q, PySem.W.cellsFrom_some _ _ _ (.inl q)⟩
  refine codeAny_call_function hr.depth (KX _ _ lk) rfl S.co S.gen rfl (PySem.W.codeRec_of KX hcd) (hb _ _ _ _ ?_)
  refine wpAny_newFunctionEnv_cells S.kind hkind fun env he s1 x => ?_
  subst he
  refine ⟨lim.keeps x.toInCall.keep, codeAny_func ?_⟩
  obtain ⟨t, ht, hq⟩ := hbody A outer s H vs Q E (hr.deeper _) hA hsp
  have I : Inv (cxOf CX P w K mg base N qual scope f cdv A outer s H E) [] (start N vs) H s1 := inv_start S hr.hd e0 hl r x
  refine wpAny_mono (ht.run [] s1 (start N vs) H _ I hq) (fun fl s' hs => ?_) fun e s' hs => hs
  have fin : ∀ {σ' : L2.St} {H' : Hp} {v : V} {u : Value}, Inv (cxOf CX P w K mg base N qual scope f cdv A outer s H E) [] σ' H' s' → RelV v u → Q v H' → CE outer P w H s Q u s' :=
    fun {σ' H' v u} J rv q => ⟨v, H', J.os, J.bare, J.base, J.hok, rv, q⟩
  cases fl with
  | ret u =>
    obtain ⟨v, σ', H', J, rv, q⟩ := hs
    exact fin J rv q
  | next =>
    obtain ⟨σ', H', J, q⟩ := hs
    exact fin (v := V.non) (u := Value.none) J rfl q
  | brk =>
    obtain ⟨_, _, _, q⟩ := hs
    exact False.elim q
  | cont =>
    obtain ⟨_, _, _, q⟩ := hs
    exact False.elim q
section
variable {P : Program} {w : World} {K : PySem.W.Frag} {mg : Str → Option Value} {base : Heap}
theorem Fun_okG {x qual : Str} {st : Stmt} {f : Addr} {fd : FuncData} {N ps : List Str} {k : Nat} {sp : Sp} (F : Fun K x qual st f fd) (S : FnScope N ps (defScope st)) (len : ∀ vs H Q E, sp vs H Q E → vs.length = ps.length)
    (hbody : ∀ (cdv : Value) (A : Around) (outer : List Env) (s : Shared) (H : Hp) (vs : List V) (Q : VK) (E : XK), Room k (A.deeper (envOfC qual (defScope st) s.heap.objs.size f cdv)) → A.guards = some [] → sp vs H Q E →
      ∃ t, PSs (cxOf CX0 P w K mg base N qual (defScope st) f cdv A outer s H E).nox (defBody st) t ∧ t { nx := fun _ H' => Q .non H', rt := Q } (start N vs) H) : FnOkG P w K mg base CX0 (k + 1) f fd ps sp := by
  obtain ⟨oc, od, kV, doc, pm, an, cdv, ct, osl, rfl, lk, hcd⟩ := F.ex
  refine fn_ofG lk hcd S len fun A outer s H vs Q E hr hA hsp => ?_
  obtain ⟨t, h, q⟩ := hbody cdv A outer s H vs Q E hr hA hsp
  exact ⟨t, h.nox, q⟩
end
structure DnG (P : Program) (w : World) (K : PySem.W.Frag) (mg : Str → Option Value) (base : Heap) (CX : CXT) (k : Nat) (x : Str) (ps : List Str) (sp : Sp) : Prop where
  ex : ∃ f fd, FnOkG P w K mg base CX k f fd ps sp ∧ mg x = some (.ref f) ∧ PySem.W.keepIn K (.ref f) = true ∧ Binds K fd ps []
section
variable {X : Cx} {CX : CXT} {k : Nat} {f : Addr} {fd : FuncData} {ps : List Str} {ds : List Value} {dvs : List V} {sp : Sp} {E : XK} {x : Str} {p pos : Pos} {e : Expr} {es : List Expr} {t : TA}
theorem run_fnG {pins : List (Addr × Obj)} {σ : L2.St} {H : Hp} {s : Shared} {Q : VK} {us : List Value} {vs : List V} (F : FnOkG X.prog X.w X.K X.mg X.base CX k f fd ps sp) (hr : Room k X.A) (hA : X.A.guards = some []) (hb : Binds X.K fd ps ds) (hd : Vals dvs ds) (hx : Passes CX X E)
    (I : Inv X pins σ H s) (r : Vals vs us) (h : sp (vs ++ dvs) H Q E) : wpAny (model X.prog X.w) X.A (call (.ref f) us) (EP X pins σ Q) X.xe s := by
  have r2 : Vals (vs ++ dvs) (us ++ ds) := r.append hd
  have hl : (us ++ ds).length = ps.length := by rw [← r2.length]; exact F.len _ _ _ _ h
  refine wpAny_call (codeAny_mono (F.run X.A X.stack s H ⟨us, []⟩ (us ++ ds) (vs ++ dvs) Q E hr hA I.env0 (hb s us I.kIn hl) r2 h) fun r s' hq => ?_)
  cases r with
  | error e => exact hx pins σ H s e s' I hq
  | ok fl =>
    cases fl with
    | ret u => exact I.after hq
    | next => exact False.elim hq
    | brk => exact False.elim hq
    | cont => exact False.elim hq
theorem pe_cdG (D : DnG X.prog X.w X.K X.mg X.base CX k x ps sp) (hA : X.A.guards = some []) (hr : Room k X.A) (hg : Gl X x) (hx : Passes CX X E) (ha : PA X (e :: es) t)
    (hdb : (x == ("__debug__" : Str)) = false := by decide) (he : starEach (e :: es) X.env = (false, eval e X.env) :: starEach es X.env := by rfl) (hpl : (backTo pos (starEach es X.env)).any (·.1) = false := by rfl) :
    PE X (.Call (.Name x p) (e :: es) [] pos) (tCall sp [] E t) := by
  obtain ⟨f, fd, F, m, kp, b⟩ := D.ex
  refine ⟨fun pins s σ H Q I h => ?_⟩
  refine wpAny_Call_Name_kw (ld_glob I hg m ?_ hdb)
  refine PySem.W.callWith_K (h₀ := X.base) I.ok.mod.kin kp (thn (ha.run pos pins s σ H _ I h) fun us s1 ⟨vs, H1, I1, r, q⟩ => ⟨I1.kIn, ?_⟩) he hpl
  exact run_fnG F hr hA b .nil hx I1 r q
theorem pe_cdG0 (D : DnG X.prog X.w X.K X.mg X.base CX k x ps sp) (hA : X.A.guards = some []) (hr : Room k X.A) (hg : Gl X x) (hx : Passes CX X E)
    (hdb : (x == ("__debug__" : Str)) = false := by decide) : PE X (.Call (.Name x p) [] [] pos) (tCall sp [] E tNil) := by
  obtain ⟨f, fd, F, m, kp, b⟩ := D.ex
  refine ⟨fun pins s σ H Q I h => ?_⟩
  refine wpAny_Call_Name_kw (ld_glob I hg m ?_ hdb)
  exact PySem.W.callWith_K0 I.kIn kp (run_fnG (us := []) F hr hA b .nil hx I .nil h)
end
/-! ### the head -/
theorem law_callG {P : Program} {w : World} {K : PySem.W.Frag} {mg mb : Str → Option Value} {CX : CXT} {k : Nat} {fa a : Addr} {fd : FuncData} {x : Str} {sp : Sp} {s₁ : Shared} {vs : List Value} {ns : List Int}
    (KX : K.In s₁.heap) (hns : s₁.heap.Ns mainGlobals mg) (hb : s₁.heap.Ns builtinsNs mb) (hbb : ∀ x : Str, x ≠ "__name__" → mb x = bootBuiltins x) (hlim : s₁.heap.NoLimit) (hg : s₁.gens = #[])
    (ha : s₁.heap.get? a = some { cls := .type "list", data := .seq vs.toArray }) (hi : IntsAre vs ns) (hl : ns.length ≤ sizeLine) (hr : Room k callerA)
    (F : ∀ base : Heap, K.In base → base.Ns mainGlobals mg → FnOkG P w K mg base CX k fa fd [x] sp) (hbind : ∀ (s : Shared) (u : Value), BindsTo s fd ⟨[u], []⟩ [(x, u)])
    (hsp : ∀ H : Hp, Only H → SqL K H a (ns.map V.int) → sp [.ref a] H (fun v _ => v = .bl true) fun _ _ _ => False)
    (hCX : ∀ H e s', CX [] H s₁ (fun _ _ _ => False) e s' → False) :
    codeAny (model P w) callerA (.call (.ref fa) ⟨[.ref a], []⟩) (fun r s' => r = .ok (.ret (.bool true)) ∧ OldK s₁.heap s'.heap ∧ s'.os = s₁.os ∧ AllBare s'.gens) s₁ := by
  have rv := vals_ints hi
  have lenV := hi.length
  have core : ∀ H : Hp, Only H → SqL K H a (ns.map V.int) → HOk P w H s₁.heap → (∀ b, H b ≠ none → b = a) → (H a ≠ none → K.lookup a = none) →
      codeAny (model P w) callerA (.call (.ref fa) ⟨[.ref a], []⟩) (fun r s' => r = .ok (.ret (.bool true)) ∧ OldK s₁.heap s'.heap ∧ s'.os = s₁.os ∧ AllBare s'.gens) s₁ := by
    intro H hO hS hok hA hK
    have base_of : ∀ {b : Addr} {o : Obj}, s₁.heap.get? b = some o → H b = none → (hidT s₁.heap H).get? b = some o := fun e n => hidT_get e n
    have noA : ∀ {b : Addr} {o : Obj} {es : Array DictEntry} {ep : Nat}, s₁.heap.get? b = some o → o.data = .dict es ep → H b = none := fun {b o es ep} e d => by
      cases q : H b with
      | none => rfl
      | some u =>
        have e' : b = a := hA b (by rw [q]; simp)
        subst e'
        rw [ha] at e; cases e
        have d' : Data.seq vs.toArray _ = Data.dict es ep := d
        cases d'
    have nsK : ∀ {b : Addr} {m : Str → Option Value}, s₁.heap.Ns b m → (hidT s₁.heap H).Ns b m := fun {b m} ⟨o, es, ep, e, d, r⟩ => ⟨o, es, ep, base_of e (noA e d), d, r⟩
    have hKb : K.In (hidT s₁.heap H) := fun b o e => base_of (KX b o e) (by
      cases q : H b with
      | none => rfl
      | some u =>
        have e' : b = a := hA b (by rw [q]; simp)
        subst e'
        rw [hK (by rw [q]; simp)] at e; cases e)
    have hM : Mod K mg (hidT s₁.heap H) := ⟨hKb, nsK hns, ⟨mb, nsK hb, hbb⟩, let ⟨mc, h1, h2⟩ := hlim; ⟨mc, nsK h1, h2⟩⟩
    have e0 : Env0 P w K mg (hidT s₁.heap H) callerA [] s₁ H := ⟨rfl, hM, fun b o e => of_hidT e, Nat.le_of_eq (hidT_size _ _), trivial, fun b hb => absurd (show b ∈ ([] : List Addr) from hb) (by simp), hok, .of_eq hg⟩
    refine codeAny_mono ((F _ hKb (nsK hns)).run callerA [] s₁ H ⟨[.ref a], []⟩ [.ref a] [.ref a] _ _ hr rfl e0 (hbind s₁ (.ref a)) (.cons rfl .nil) (hsp H hO hS)) fun r s' h => ?_
    cases r with
    | error e => exact (hCX H e s' h).elim
    | ok fl =>
      cases fl with
      | next => exact False.elim h
      | brk => exact False.elim h
      | cont => exact False.elim h
      | ret u =>
        obtain ⟨v, H', os, bare, un, hok', r', q⟩ := h
        have q' : v = .bl true := q
        subst q'
        obtain rfl : u = Value.bool true := r'
        refine ⟨rfl, OldK.of_keep fun b o e => ?_, os, bare⟩
        cases q : H b with
        | none => exact un.keep b o e q (by intro z; exact absurd (show b ∈ ([] : List Addr) from z) (by simp)) (by simp)
        | some u =>
          rcases hO b with z | ⟨ob, xs, z⟩
          · rw [q] at z; cases z
          · have z2 := un.frzs b ob _ z
            obtain ⟨e1, _⟩ := hok b _ z
            obtain ⟨e2, _⟩ := hok' b _ z2
            rw [e] at e1; cases e1
            exact e2
  cases hk : K.lookup a with
  | some o =>
    have e := KX a o hk
    rw [ha] at e
    cases e
    refine core (fun _ => none) (fun _ => .inl rfl) (.inr ⟨_, vs.toArray, _, hk, rfl, rfl, rfl, by rw [List.size_toArray, lenV]; exact hl, by simpa using rv⟩) (fun b u z => by have z' : (none : Option HO) = some u := z; cases z') (fun b z => absurd rfl z) fun z => absurd rfl z
  | none =>
    refine core (fun b => if b = a then some (.frz { cls := .type "list", data := .seq vs.toArray } (.lst (ns.map V.int))) else none) (fun b => ?_) (.inl (.inr ⟨{ cls := .type "list", data := .seq vs.toArray }, if_pos rfl⟩)) (fun b u z => ?_) (fun b z => ?_) fun _ => hk
    · by_cases hb : b = a
      · exact .inr ⟨_, _, if_pos hb⟩
      · exact .inl (if_neg hb)
    · by_cases hb : b = a
      · have z' := (if_pos hb).symm.trans z
        cases z'
        subst hb
        exact ⟨ha, by rw [List.length_map]; exact hl, vs, _, rv, ha⟩
      · have z' := (if_neg hb).symm.trans z
        cases z'
    · by_cases hb : b = a
      · exact hb
      · exact absurd (if_neg hb) z
theorem walk_ofG {l : PySem.W.OpenLaw} {n k : Nat} {q : Program} {loose : List Str} {XP : (Str → Option Value) → Heap → Prop} {YP : World → Heap → Prop} {d : DefRec} {K : Params → PySem.W.Frag} {CX : World → CXT} {sp : World → Sp} {x : Str}
    (hn : l.most = some n) (hn2 : n ≤ sizeLine) (hdf : d.params.defaults = []) (hr : Room k callerA)
    (hY : ∀ (w : World) (h : Heap), YP w h → (K w.params).In h)
    (F : ∀ (w : World) (mg : Str → Option Value) (fa : Addr) (h : Heap), (K w.params).In h → h.Ns mainGlobals mg → mg d.name = some (.ref fa) →
      ∃ fd : FuncData, (∀ (s : Shared) (u : Value), BindsTo s fd ⟨[u], []⟩ [(x, u)]) ∧
        ∀ base : Heap, (K w.params).In base → base.Ns mainGlobals mg → FnOkG l.prog w (K w.params) mg base (CX w) k fa fd [x] (sp w))
    (hsp : ∀ (w : World) (H : Hp) (a : Addr) (ns : List Int), ns.length ≤ n → Only H → SqL (K w.params) H a (ns.map V.int) → sp w [.ref a] H (fun v _ => v = .bl true) fun _ _ _ => False)
    (hCX : ∀ (w : World) (H : Hp) (s : Shared) (e : Value) (s' : Shared), CX w [] H s (fun _ _ _ => False) e s' → False) :
    PySem.W.WalkO q loose XP YP l.row.toRowW d [] (fun f vs => PySem.call f vs) := by
  refine Att.attach_call hn hdf fun w s₀ s₁ mg mb fa o pm cd doc a vs ns G Y ho hd hcd hmg hobj hints hlen hg => ?_
  have KX := hY w _ Y
  obtain ⟨fd, hb, hF⟩ := F w mg fa _ KX G.T.g hmg
  exact law_callG KX G.T.g G.T.b G.T.builtins G.T.nolimit hg hobj hints (Nat.le_trans hlen hn2) hr hF hb (fun H hO hS => hsp w H a ns hlen hO hS) fun H e s' => hCX w H s₁ e s'
/-! ### repr -/
/-- things of which repr is told: data, and a flat dict -/
inductive Shw (K : PySem.W.Frag) (H : Hp) : V → PyData → Prop
  | dp {x : V} {d : PyData} (h : Dp K H x d) (n : d.hasDict = false) : Shw K H x d
  | dk {a : Addr} {kvs : List (Key × V)} (h : H a = some (.dK kvs)) (f : kvs.all (fun p => isPd p.2) = true) : Shw K H (.ref a) (.dict (kvs.map fun p => (pd (kV p.1), pd p.2)))
def rRepr (K : PySem.W.Frag) : List V → Hp → VK → Prop := fun xs H Q => ∃ x d, xs = [x] ∧ Shw K H x d ∧ d.showable = true ∧ d.depth ≤ 60 ∧ d.shown.length ≤ sizeLine ∧ Q (.str d.shown) H
theorem call_reprD {X : Cx} {pins : List (Addr × Obj)} {s : Shared} {σ : L2.St} {H : Hp} {Q : VK} {u : Value} {d : PyData} {as : List Addr} (hA : X.A.guards = some []) (hu : X.A.units + 64 < cLine) (I : Inv X pins σ H s) (r : Reads s.heap u d as) (hsm : d.hasDict = true → sysModules ∉ as)
    (hs : d.showable = true) (hd : d.depth ≤ 60) (hz : d.shown.length ≤ sizeLine) (q : Q (.str d.shown) H) : wpAny (model X.prog X.w) X.A (call (.builtin "repr") [u]) (EP X pins σ Q) X.xe s := by
  have fin : ∀ (h' : Heap) (tk : Tok) (u : Tok), (∀ b o, s.heap.get? b = some o → h'.get? b = some o) → EP X pins σ Q (.str d.shown u) { s with heap := h', toks := tk } := fun h' tk u hk =>
    ⟨.str d.shown, H, I.kept hk, ⟨u, rfl⟩, q⟩
  cases r with
  | none => exact PySem.P.repr_of_none (fin s.heap _ _ fun _ _ e => e)
  | bool b => exact PySem.P.repr_of_bool (by have := fin s.heap (s.toks + 1) s.toks fun _ _ e => e; simpa only [PyData.shown] using this)
  | int i t => exact PySem.P.repr_of_int (by simpa [PyData.showable] using hs) (by have := fin s.heap (s.toks + 1) s.toks fun _ _ e => e; simpa only [PyData.shown] using this)
  | str x t => exact PySem.P.repr_of_str (by have := fin s.heap (s.toks + 1) s.toks fun _ _ e => e; simpa only [PyData.shown] using this) (by simpa only [PyData.shown] using hz)
  | list h1 h2 h3 h4 => exact repr_of_reads' (.list h1 h2 h3 h4) hs hsm hA (by omega) (fun _ _ e => e) (fun h' u tk hk => fin h' tk u hk) hz
  | tuple h1 h2 h3 h4 => exact repr_of_reads' (.tuple h1 h2 h3 h4) hs hsm hA (by omega) (fun _ _ e => e) (fun h' u tk hk => fin h' tk u hk) hz
  | dict h1 h2 h3 h4 h5 => exact repr_of_reads' (.dict h1 h2 h3 h4 h5) hs hsm hA (by omega) (fun _ _ e => e) (fun h' u tk hk => fin h' tk u hk) hz
theorem pd_reads {h : Heap} {x : V} {u : Value} (hp : isPd x = true) (r : RelV x u) : Reads h u (pd x) [] := by
  cases x with
  | non =>
    cases r
    exact .none
  | bl b =>
    cases r
    exact .bool b
  | int i =>
    obtain ⟨t, rfl⟩ := r
    exact .int i t
  | str z =>
    obtain ⟨t, rfl⟩ := r
    exact .str z t
  | _ => cases hp
theorem kV_reads {h : Heap} {k : Key} {u : Value} (e : keyIs k u = true) : Reads h u (pd (kV k)) [] := by
  rcases keyIs_shape e with ⟨i, t, rfl, rfl⟩ | ⟨x, t, rfl, rfl⟩
  · exact .int i t
  · exact .str x t
theorem dk_reads {P : Program} {w : World} {h : Heap} : ∀ {es : List DictEntry} {vs : List (Key × Value)} {kvs : List (Key × V)}, Pairs (mixKind P w) es vs → KV kvs vs → kvs.all (fun p => isPd p.2) = true →
    ReadsAll h (es.map (·.key)) ((kvs.map fun p => (pd (kV p.1), pd p.2)).map (·.1)) [] ∧ ReadsAll h (es.map (·.val)) ((kvs.map fun p => (pd (kV p.1), pd p.2)).map (·.2)) []
  | _, _, _, .nil, .nil, _ => ⟨.nil, .nil⟩
  | _, _, _, .cons hk hv hr, .cons hp r2, hf => by
    rw [List.all_cons, Bool.and_eq_true] at hf
    obtain ⟨a, b⟩ := dk_reads hr r2 hf.2
    obtain ⟨e1, e2⟩ := hp
    refine ⟨ReadsAll.cons (as := []) (bs := []) ?_ a, ReadsAll.cons (as := []) (bs := []) ?_ b⟩
    · dsimp only
      rw [e1]
      exact kV_reads hk
    · dsimp only
      rw [hv]
      exact pd_reads hf.1 e2
theorem Shw.reads {X : Cx} {pins : List (Addr × Obj)} {s : Shared} {σ : L2.St} {H : Hp} (I : Inv X pins σ H s) {x : V} {d : PyData} {u : Value} (h : Shw X.K H x d) (r : RelV x u) : ∃ as, Reads s.heap u d as ∧ (d.hasDict = true → sysModules ∉ as) := by
  cases h with
  | dp h n =>
    obtain ⟨as, q⟩ := Dp.reads I d _ u h r
    exact ⟨as, q, PyData.noDict_hsm n⟩
  | dk h f =>
    cases r
    obtain ⟨_, hS, vs, rv, o, es, ep, e1, ex, e2, _, pr, _⟩ := I.hok _ _ h
    obtain ⟨q1, q2⟩ := dk_reads (h := s.heap) pr rv f
    refine ⟨_, Reads.dict e1 ex.1 e2 q1 q2, fun _ hm => ?_⟩
    simp only [List.append_nil, List.mem_cons, List.not_mem_nil, or_false] at hm
    rw [← hm] at hS
    exact absurd hS (by simp)
theorem call_repr {X : Cx} {K : PySem.W.Frag} (hA : X.A.guards = some []) (hu : X.A.units + 64 < cLine) (h : X.K = K := by rfl) : CallR X (.builtin "repr") (rRepr K) := by
  subst h
  intro pins s σ H xs us Q I r h
  obtain ⟨x, d, rfl, hs, h1, h2, h3, q⟩ := h
  obtain ⟨u, rfl, rx⟩ := vals1 r
  obtain ⟨as, hr, hsm⟩ := hs.reads I rx
  exact call_reprD hA hu I hr hsm h1 h2 h3 q
/-! ### x == x -/
def rEqS (K : PySem.W.Frag) : R2 := fun x y H Q => x = y ∧ (scal x x = true ∨ (∃ a xs, x = .ref a ∧ (SqL K H a xs ∨ SqT K H a xs)) ∨ ∃ a kvs, x = .ref a ∧ H a = some (.dK kvs) ∧ ∀ p ∈ kvs, valV kvs p.1 = some p.2 ∧ (flatB p.2 = true ∨ ∃ b, p.2 = .ref b)) ∧ Q (.bl true) H
theorem op_eqS {X : Cx} {K : PySem.W.Frag} (hu : X.A.units + 64 < cLine) (h : X.K = K := by rfl) : OpR X (compareOp .Eq) (rEqS K) := by
  subst h
  intro pins s σ H x y v u Q I rx ry h
  obtain ⟨rfl, h, q⟩ := h
  have fin : EP X pins σ Q (.bool true) s := ⟨.bl true, H, I, rfl, q⟩
  rcases h with h | ⟨a, xs, rfl, h⟩ | ⟨a, kvs, rfl, h, hk⟩
  · exact op_eq pins s σ H x x v u Q I rx ry ⟨h, by rw [decide_eq_true rfl]; exact q⟩
  · cases rx
    cases ry
    rcases h with h | h
    · obtain ⟨its, r', pl, hz⟩ := I.list h
      exact SeqAt.eq_listAt (e := fun _ => true) pl.isList pl.isList rfl (by omega) (fun j h1 h2 => SeqAt.EqAt.same _) (by rw [List.all_eq_true.mpr (fun _ _ => rfl)]; exact fin)
    · obtain ⟨its, r', pl, hz⟩ := I.tuple h
      exact SeqAt.eq_tupleAt (e := fun _ => true) pl pl (by omega) (fun j h1 h2 => SeqAt.EqAt.same _) (by rw [List.all_eq_true.mpr (fun _ _ => rfl), beq_self_eq_true]; exact fin)
  · refine eqR_run I (A := X.A) (F := EqV X.K H 1) (by omega) (eqV_run I 1 X.A.in1 (by show X.A.units + 1 + 1 < cLine; omega)) (.inr ⟨a, a, kvs, kvs, rfl, rfl, h, h, rfl, fun p hp => ⟨_, (hk p hp).1, ?_⟩⟩) rx ry _ _ fin
    rcases (hk p hp).2 with h | ⟨b, h⟩
    · exact .inl ⟨rfl, h⟩
    · exact .inr (.inl ⟨b, h, h⟩)
theorem op_eqVK {X : Cx} {K : PySem.W.Frag} (hu : X.A.units + 64 < cLine) (h : X.K = K := by rfl) : OpR X (compareOp .Eq) (rEqV K) := by
  subst h
  exact op_eqV hu
/-! ### o[:] = ys -/
section
variable {prog : Program} {w : World} {A : Around} {E : Value → Shared → Prop} {s : Shared}
theorem bounds_all (n : Nat) : sliceBounds none none none n = ((0 : Int), (n : Int), 1) := by
  simp only [sliceBounds, Option.getD_none]
  simp
set_option maxRecDepth 100000 in
/-- o[:] = another list: turned from the rule for a slice with both bounds -/
theorem setItem_sliceAll {l b sl : Addr} {items new : Array Value} {n n2 : Nat} {vl vu : Value} {Q : Unit → Shared → Prop}
    (e : s.heap.get? l = some { cls := .type "list", data := .seq items n }) (e2 : s.heap.get? b = some { cls := .type "list", data := .seq new n2 }) (hne : l ≠ b)
    (hs : s.heap.IsSliceOf sl vl vu .none) (pl : IsPart vl none) (pu : IsPart vu none)
    (hsz : items.size + new.size ≤ sizeLine) (h : Q () { s with heap := s.heap.update l (Obj.mapSeq fun xs => xs.extract 0 0 ++ new ++ xs.extract items.size xs.size) }) :
    wpAny (model prog w) A (setItem (.ref l) (.ref sl) (.ref b)) Q E s := by
  have hl : s.heap.IsList l items := PySem.IsL.isList e
  have hb : s.heap.IsList b new := PySem.IsL.isList e2
  obtain ⟨os, hos, hcs, hds⟩ := id hs
  have hTs : s.TypeIs (.ref sl) "slice" := ⟨os, hos, hcs⟩
  have hstep : ¬ ((rawPart none == rawInt 0) = true) := Bool.false_ne_true
  have hsame : Builtin.List.listSameRef (.ref l) (.ref b) = false := by
    unfold Builtin.List.listSameRef
    exact beq_eq_false_iff_ne.mpr hne
  have hmax : (max (0 : Int) (items.size : Int)).toNat = items.size := by omega
  have hz' : ((fun xs : Array Value => xs.extract 0 0 ++ new ++ xs.extract items.size xs.size) items).size ≤ sizeLine + 1 := by
    simp only [Array.size_append, Array.size_extract]
    omega
  unfold setItem
  try with_reducible refine wpAny_holding ?_
  first | refine wpAny_bind (wpAny_pure ?_) | skip
  refine wpAny_bind (wpAny_sequenceKey hl.typeIs (by decide) ?_)
  refine wpAny_bind (wpAny_callSpecial?_slot (name := Str.ofString "__setitem__") hl.typeIs slot_list_setitem
    (wpAny_call_entry slot_list_setitem hl.typeIs entry_list_setitem ?_ (args_list_setitem _ _ _)))
  show wpAny _ _ (Builtin.List.listSubscript? (.ref sl) >>= _) _ _ s
  refine wpAny_bind ?_
  unfold Builtin.List.listSubscript?
  refine wpAny_bind (wpAny_specialOf hTs slice_no_index ?_)
  simp only [Option.isNone_none, if_true]
  refine wpAny_pure ?_
  show wpAny _ _ (typeOf (.ref sl) >>= _) _ _ s
  refine wpAny_bind (wpAny_typeOf hTs ?_)
  first
    | rw [if_neg (by decide)]
    | refine PySem.W.KFB.if_not (by decide) ?_
  rw [listSliceParts_eq]
  refine wpAny_bind (wpAny_bind (wpAny_field hos hds (x := .none) rfl (wpAny_bind (wpAny_listPart .none ?_))))
  rw [if_neg hstep]
  refine wpAny_bind (wpAny_field hos hds (x := vl) rfl (wpAny_bind (wpAny_listPart pl ?_)))
  refine wpAny_bind (wpAny_field hos hds (x := vu) rfl (wpAny_bind (wpAny_listPart pu (wpAny_pure ?_))))
  first
    | simp only [hsame, Bool.false_eq_true, if_false]
    | refine PySem.W.KFB.if_not hsame ?_
    | (dsimp only
       rw [if_neg (by rw [hsame]; exact Bool.false_ne_true)])
  refine wpAny_bind (m := Builtin.List.listAllItems (.ref b) "must assign iterable to extended slice") ?_
  unfold Builtin.List.listAllItems
  refine wpAny_bind (wpAny_typeOf hb.typeIs ?_)
  first
    | refine PySem.W.KFB.if_so (by decide) ?_
    | rw [if_pos (by decide)]
    | simp only [beq_self_eq_true, Bool.true_or, if_true]
  unfold Builtin.List.listItems
  refine wpAny_bind (wpAny_seqItems e2 rfl (wpAny_pure ?_))
  refine wpAny_bind (wpAny_bind (wpAny_seqItems e rfl (wpAny_pure ?_)))
  refine wpAny_bind (wpAny_of_eq ((sliceIndices_raw none none none items.size (by simp)).trans (congrArg (pure : Int × Int × Int → Sem (Int × Int × Int)) (bounds_all items.size))) ?_)
  show wpAny _ _ (if ((1 : Int) == 1) = true then _ else _) _ _ s
  rw [if_pos (by decide)]
  refine wpAny_bind (wpAny_rule ?_)
  first
    | simp only [notLongL hsz, Bool.false_eq_true, if_false]
    | refine PySem.W.KFB.if_not (notLongL hsz) ?_
  first | refine wpAny_bind (wpAny_pure ?_) | skip
  show wpAny _ _ (updateSeq l (fun xs => xs.extract 0 ((0 : Int)).toNat ++ new ++ xs.extract (max (0 : Int) (items.size : Int)).toNat xs.size) >>= _) _ _ s
  rw [hmax]
  refine wpAny_bind (wpAny_updateSeq (hz := Nat.le_trans (Nat.le_add_right _ _) hsz) (_hz' := hz') e rfl ?_)
  refine wpAny_bind (wpAny_letGo ?_)
  first
    | exact wpAny_bind (wpAny_pure (wpAny_pure ⟨.none, rfl, wpAny_pure h⟩))
    | exact wpAny_pure ⟨.none, rfl, wpAny_pure h⟩
end
theorem set_all {X : Cx} {pins : List (Addr × Obj)} {s : Shared} {σ : L2.St} {H : Hp} {l b sl : Addr} {xs ys : List V} {Q : Unit → Shared → Prop} (I : Inv X pins σ H s)
    (hH : H l = some (.lst xs)) (hB : H b = some (.lst ys)) (hne : l ≠ b) (hs : s.heap.IsSliceOf sl .none .none .none)
    (hz : xs.length + ys.length ≤ sizeLine) (h : ∀ s', Inv X pins σ (upd H l (.lst ys)) s' → Q () s') :
    wpAny (model X.prog X.w) X.A (setItem (.ref l) (.ref sl) (.ref b)) Q X.xe s := by
  obtain ⟨z, its, n, r, hl, e⟩ := I.lstM hH
  obtain ⟨z2, its2, n2, r2, hl2, e2⟩ := I.lstM hB
  refine setItem_sliceAll e e2 hne hs .none .none (by rw [List.size_toArray, List.size_toArray]; omega) (h _ ?_)
  refine I.lset (its' := its2) (t' := s.toks) hH e ?_ r2 z2
  have q := splice_eq its its2 0 its.length
  rw [List.take_zero, List.nil_append, List.drop_length, List.append_nil] at q
  exact q
def gSlAll (to : TE) : TG := fun v σ H Q => to σ H fun x H1 => ∃ (l b : Addr) (xs ys : List V), x = .ref l ∧ v = .ref b ∧ H1 l = some (.lst xs) ∧ H1 b = some (.lst ys) ∧ l ≠ b ∧ xs.length + ys.length ≤ sizeLine ∧ Upd H1 l (.lst ys) fun H4 => Q σ H4
theorem pg_slall {X : Cx} {o : Expr} {to : TE} {p2 pos : Pos} (ho : PE X o to)
    (ha : ∀ v, assign (.Subscript o (.Slice none none none p2) pos) X.env v = (do
      let ov ← holding [v] (eval o X.env)
      let iv ← holding [v, ov] (eval (.Slice none none none p2) X.env)
      standAt pos
      holding [v, ov, iv] (setItem ov iv v)
      release [iv, v, ov] []) := by intro _; rfl) : PG X (.Subscript o (.Slice none none none p2) pos) (gSlAll to) := by
  refine ⟨fun pins s σ H v u Q I r h => ?_⟩
  rw [ha]
  refine wpAny_bind (wpAny_holding (thn (ho.run pins s σ H _ I h) fun ov s1 ⟨x, H1, I1, r1, q1⟩ => ?_))
  refine wpAny_bind (wpAny_holding ?_)
  refine wpAny_Slice ?_
  rw [evalPart_none]
  refine wpAny_pure (wpAny_pure (wpAny_pure ?_))
  obtain ⟨l, b, xs, ys, rfl, rfl, hl3, hb3, ne, hz, q⟩ := q1
  cases r
  cases r1
  have I4 : Inv X pins σ H1 { s1 with heap := s1.heap.push { cls := .type "slice", data := .fields #[.none, .none, .none] } } := I1.kept (t' := s1.toks) fun b ob q => Heap.get?_push_of_some _ q
  refine wpAny_bind (wpAny_standAt (wpAny_bind (wpAny_holding ?_)))
  refine set_all (s := { s1 with heap := s1.heap.push { cls := .type "slice", data := .fields #[.none, .none, .none] } }) I4 hl3 hb3 ne (Heap.IsSliceOf.new ..) hz fun s5 I5 => ?_
  exact wpAny_release ⟨σ, _, I5, q⟩
/-! ### isinstance of a caught exception with fields -/
def rIsX (K : PySem.W.Frag) (a : Addr) (cls : Value) (d : Option Addr) : List V → Hp → VK → Prop := fun xs H Q => ∃ (D dd : Addr) (c : V) (cv : Value) (fs : List (Str × V)) (b : Bool), xs = [.ref a, c] ∧ cls = .ref D ∧ ExcC K D ∧ d = some dd ∧ H dd = some (.xd fs) ∧ ClsV c cv ∧ PySem.W.kitOne K (.ref D) cv = some b ∧ Q (.bl b) H
theorem inst_of {X : Cx} {pins pn : List (Addr × Obj)} {s : Shared} {σ : L2.St} {H : Hp} {a D dd : Addr} {oe : Obj} {d : Option Addr} {fs : List (Str × V)} (hz : Zc (.ref D) (some dd) oe) (hf : ∃ vs, oe.data = .fields vs) (I : Inv (X.suite a ((a, oe) :: pn)) pins σ H s) (hd : H dd = some (.xd fs)) :
    ∃ od, PySem.W.InstAt s.heap a oe D (some od) := by
  obtain ⟨ha, _⟩ := I.pin (a, oe) (List.mem_append_left _ List.mem_cons_self)
  obtain ⟨vs, hv⟩ := hf
  have hx : ObjOk X.prog X.w H s.heap dd (.xd fs) := I.hok dd _ hd
  obtain ⟨mA, hns, hr⟩ := hx
  obtain ⟨od, ho, hl⟩ := lookIn_ns hns
  exact ⟨od, ha, hz.1, by unfold PySem.W.notCls; rw [hv] <;> rfl, by rw [hz.2]; exact ho⟩
theorem call_isX {X : Cx} {K : PySem.W.Frag} {a : Addr} {oe : Obj} {cls : Value} {d : Option Addr} {pn : List (Addr × Obj)} (hz : Zc cls d oe) (hf : ∃ vs, oe.data = .fields vs) (hK : X.K = K := by rfl) : CallR (X.suite a ((a, oe) :: pn)) (.builtin "isinstance") (rIsX K a cls d) := by
  subst hK
  intro pins s σ H xs us Q I r h
  obtain ⟨D, dd, c, cv, fs, b, rfl, rfl, C, rfl, hd, k, e, q⟩ := h
  obtain ⟨u1, u2, rfl, r1, r2⟩ := vals2 r
  cases r1
  have e2 := k.eq r2
  subst e2
  obtain ⟨od, J⟩ := inst_of (d := some dd) hz hf I hd
  obtain ⟨cd, hcd, _⟩ := PySem.W.any_some C.hd
  exact PySem.W.kia_one (PySem.W.kitx_exc (by rw [hcd]; rfl) C.hg C.hk C.hs C.ha C.hn C.ht C.hm) I.kIn J e (fun z => nomatch z) fun tk => ⟨.bl b, H, I.kept (t' := tk) fun _ _ z => z, rfl, q⟩
def rIsXT (K : PySem.W.Frag) (a : Addr) (cls : Value) (d : Option Addr) : List V → Hp → VK → Prop := fun xs H Q => ∃ (D dd tp : Addr) (cs : List V) (us : List Value) (fs : List (Str × V)) (b : Bool), xs = [.ref a, .ref tp] ∧ H tp = some (.tup cs) ∧ Paired ClsV cs us ∧ cls = .ref D ∧ ExcC K D ∧ d = some dd ∧ H dd = some (.xd fs) ∧ PySem.W.kitAny K (.ref D) us = some b ∧ Q (.bl b) H
theorem call_isXT {X : Cx} {K : PySem.W.Frag} {a : Addr} {oe : Obj} {cls : Value} {d : Option Addr} {pn : List (Addr × Obj)} (hz : Zc cls d oe) (hf : ∃ vs, oe.data = .fields vs) (hK : X.K = K := by rfl) : CallR (X.suite a ((a, oe) :: pn)) (.builtin "isinstance") (rIsXT K a cls d) := by
  subst hK
  intro pins s σ H xs us Q I r h
  obtain ⟨D, dd, tp, cs, ws, fs, b, rfl, hT, k, rfl, C, rfl, hd, e, q⟩ := h
  obtain ⟨u1, u2, rfl, r1, r2⟩ := vals2 r
  cases r1
  cases (show u2 = Value.ref tp from r2)
  obtain ⟨od, J⟩ := inst_of (d := some dd) hz hf I hd
  obtain ⟨cd, hcd, _⟩ := PySem.W.any_some C.hd
  obtain ⟨_, its, rv, o, h1, h2, n, h3⟩ := (show ObjOk X.prog X.w H s.heap tp (.tup cs) from I.hok tp _ hT)
  have e3 := ClsV.all k rv
  subst e3
  obtain ⟨oc, od', dt, sl⟩ := o
  simp only at h2 h3
  subst h2 h3
  exact PySem.W.kia_tup (PySem.W.kitx_exc (by rw [hcd]; rfl) C.hg C.hk C.hs C.ha C.hn C.ht C.hm) I.kIn J h1 e (fun z => nomatch z) fun tk => ⟨.bl b, H, I.kept (t' := tk) fun _ _ z => z, rfl, q⟩
theorem pe_gcl {X : Cx} {x : Str} {a : Addr} {pos : Pos} (hg : Gl X x) (hm : X.mg x = some (.ref a)) (hd : (x == ("__debug__" : Str)) = false := by decide) : PE X (.Name x pos) (tC (.ref a)) := pe_glob (v := .ref a) hg hm rfl hd
theorem kit_yes {K : PySem.W.Frag} {t : Value} {C : Addr} (hdct : PySem.W.hasDictIn K C = true) (ht : PySem.W.typeIn K (.ref C) = some (.type "type")) (h : PySem.W.subIn K t (.ref C) = some true) : PySem.W.kitOne K t (.ref C) = some true := by
  obtain ⟨cd, hc, _⟩ := PySem.W.any_some hdct
  have e2 : ((PySem.W.clsIn K C).isSome && PySem.W.typeIn K (.ref C) == some (.type "type")) = true := by rw [hc, ht] <;> rfl
  unfold PySem.W.kitOne
  split
  · rfl
  · show (if ((PySem.W.clsIn K C).isSome && PySem.W.typeIn K (.ref C) == some (.type "type")) = true then PySem.W.subIn K t (.ref C) else none) = some true
    rw [if_pos e2]
    exact h
theorem kit_no {K : PySem.W.Frag} {t : Value} {C : Addr} (hdct : PySem.W.hasDictIn K C = true) (ht : PySem.W.typeIn K (.ref C) = some (.type "type")) (h : PySem.W.subIn K t (.ref C) = some false) (n : (t == Value.ref C) = false) : PySem.W.kitOne K t (.ref C) = some false := by
  obtain ⟨cd, hc, _⟩ := PySem.W.any_some hdct
  have e2 : ((PySem.W.clsIn K C).isSome && PySem.W.typeIn K (.ref C) == some (.type "type")) = true := by rw [hc, ht] <;> rfl
  unfold PySem.W.kitOne
  rw [if_neg (by rw [n]; exact Bool.false_ne_true)]
  show (if ((PySem.W.clsIn K C).isSome && PySem.W.typeIn K (.ref C) == some (.type "type")) = true then PySem.W.subIn K t (.ref C) else none) = some false
  rw [if_pos e2]
  exact h
theorem kit_blt {K : PySem.W.Frag} {C : Addr} {T : String} (h : PySem.W.subIn K (.ref C) (.type T) = some true) (m : PySem.W.kitMeta T = true) : PySem.W.kitOne K (.ref C) (.type T) = some true := by
  unfold PySem.W.kitOne
  split
  · rfl
  · show (if PySem.W.kitMeta T = true then PySem.W.subIn K (.ref C) (.type T) else none) = some true
    rw [if_pos m]
    exact h
/-! ### a list and one of another length, or two empty ones -/
def rNeL (K : PySem.W.Frag) : R2 := fun x y H Q => ∃ a b xs ys, x = .ref a ∧ y = .ref b ∧ SqL K H a xs ∧ SqL K H b ys ∧ ((xs.length ≠ ys.length ∧ Q (.bl true) H) ∨ (xs = [] ∧ ys = [] ∧ Q (.bl false) H))
theorem op_neL {X : Cx} {K : PySem.W.Frag} (hu : X.A.units + 64 < cLine) (h : X.K = K := by rfl) : OpR X (compareOp .NotEq) (rNeL K) := by
  subst h
  intro pins s σ H x y v u Q I rx ry h
  obtain ⟨a, b, xs, ys, rfl, rfl, ha, hb, h⟩ := h
  cases rx
  cases ry
  obtain ⟨its, r, pl, hz⟩ := I.list ha
  obtain ⟨its2, r2, pl2, hz2⟩ := I.list hb
  rcases h with ⟨ne, q⟩ | ⟨rfl, rfl, q⟩
  · exact SeqAt.RcNeAt.lists_lengths pl.isList pl2.isList (by rw [List.size_toArray, List.size_toArray, ← r.length, ← r2.length]; simpa using ne) (by omega) _ _ _ _ ⟨.bl true, H, I, rfl, q⟩
  · cases r
    cases r2
    exact SeqAt.RcNeAt.lists (e := fun _ => true) pl.isList pl2.isList rfl (by omega) (fun j h1 h2 => absurd h1 (by simp)) _ _ _ _ ⟨.bl false, H, I, rfl, q⟩
/-! ### two lists of the very same things -/
def atom (x : V) : Bool := match x with
  | .ref _ => true
  | x => flatB x
def rNeV (K : PySem.W.Frag) : R2 := fun x y H Q => ∃ a b xs, x = .ref a ∧ y = .ref b ∧ SqL K H a xs ∧ SqL K H b xs ∧ xs.all atom = true ∧ Q (.bl false) H
theorem atom_eq {A : Around} {s : Shared} {v : V} {u u' : Value} (r : RelV v u) (r' : RelV v u') (f : atom v = true) : SeqAt.EqAt A s u u' true := by
  cases v with
  | ref a =>
    cases r
    cases r'
    exact SeqAt.EqAt.same _
  | _ => exact eqAt_same r r' f
theorem op_neV {X : Cx} {K : PySem.W.Frag} (hu : X.A.units + 64 < cLine) (h : X.K = K := by rfl) : OpR X (compareOp .NotEq) (rNeV K) := by
  subst h
  intro pins s σ H x y v u Q I rx ry h
  obtain ⟨a, b, xs, rfl, rfl, ha, hb, hx, q⟩ := h
  cases rx
  cases ry
  obtain ⟨its, r, pl, hz⟩ := I.list ha
  obtain ⟨its2, r2, pl2, hz2⟩ := I.list hb
  refine SeqAt.RcNeAt.lists (e := fun _ => true) pl.isList pl2.isList (by rw [List.size_toArray, List.size_toArray, ← r.length, ← r2.length]) (by omega) (fun j h1 h2 => ?_) _ _ _ _ (by rw [List.all_eq_true.mpr (fun _ _ => rfl)]; exact ⟨.bl false, H, I, rfl, q⟩)
  have k1 : j < its.length := by simpa using h1
  have k2 : j < its2.length := by simpa using h2
  have k : j < xs.length := by rw [r.length]; exact k1
  obtain ⟨u1, hu1, ru1⟩ := r.get (List.getElem?_eq_getElem k)
  obtain ⟨u2, hu2, ru2⟩ := r2.get (List.getElem?_eq_getElem k)
  rw [List.getElem?_eq_getElem k1] at hu1
  rw [List.getElem?_eq_getElem k2] at hu2
  have e1 : its.toArray[j] = u1 := by simpa using hu1
  have e2 : its2.toArray[j] = u2 := by simpa using hu2
  rw [e1, e2]
  exact atom_eq ru1 ru2 (List.all_eq_true.mp hx _ (List.getElem_mem k))
theorem eqV_atoms {K : PySem.W.Frag} {H : Hp} {n : Nat} : ∀ {xs : List V}, xs.all atom = true → Paired (EqV K H (n + 1)) xs xs
  | [], _ => .nil
  | x :: r, h => by
    rw [List.all_cons, Bool.and_eq_true] at h
    refine .cons ?_ (eqV_atoms h.2)
    cases x with
    | ref a => exact .inr (.inl ⟨a, rfl, rfl⟩)
    | _ => exact .inl ⟨rfl, h.1⟩
/-- two lists of the very same things are equal -/
theorem eqV_lists {K : PySem.W.Frag} {H : Hp} {a b : Addr} {xs : List V} {Q : VK} (ha : SqL K H a xs) (hb : SqL K H b xs) (hx : xs.all atom = true) (q : Q (.bl true) H) : rEqV K (.ref a) (.ref b) H Q :=
  ⟨1, by decide, .inl ⟨a, b, xs, xs, rfl, rfl, ha, hb, eqV_atoms hx⟩, q⟩
end Rg

set_option Elab.async false
set_option linter.all false
set_option maxRecDepth 100000
set_option maxHeartbeats 4000000
/-! several except clauses, with names or without: turned from HandS's ps_try_many and ps_try_as -/
namespace Rt
open PySem PySem.Spec PyProof.Rows L2 Rb Rx Rg
abbrev St := L2.St
/-- what the clauses wish of an exception of the body, one after the other -/
def wMix (K : PySem.W.Frag) (Wout : WX) (D : Ends) : List (Value × Option Nat × (Addr → Value → Option Addr → TS)) → WX
  | [] => Wout
  | (c, none, ts) :: r => fun cls d σ H => ∃ b, PySem.W.exmOne K cls c = some b ∧ (b = true → ∀ a, H a = none → ts a cls d D σ H) ∧ (b = false → wMix K Wout D r cls d σ H)
  | (c, some i, ts) :: r => fun cls d σ H => ∃ b, PySem.W.exmOne K cls c = some b ∧ (b = true → ∀ a, H a = none → ts a cls d { nx := fun σ' H' => D.nx (σ'.set i none) H', rt := D.rt, bk := fun σ' H' => D.bk (σ'.set i none) H', ct := fun σ' H' => D.ct (σ'.set i none) H' } (σ.set i (some (.ref a))) H) ∧ (b = false → wMix K Wout D r cls d σ H)
inductive HdsMix (X : Cx) : List ExceptHandler → List (Value × Option Nat × (Addr → Value → Option Addr → TS)) → Prop
  | nil : HdsMix X [] []
  | cons {x : Str} {c : Value} {ts : Addr → Value → Option Addr → TS} {b₀ : Stmt} {suite : List Stmt} {np pos' : Pos} {hds : List ExceptHandler} {l : List (Value × Option Nat × (Addr → Value → Option Addr → TS))} (hc : Names X x c)
      (hsu : ∀ (a : Addr) (oe : Obj) (cls : Value) (d : Option Addr) (pn : List (Addr × Obj)), Zc cls d oe → (∃ vs, oe.data = .fields vs) → PSs (X.suite a ((a, oe) :: pn)) (b₀ :: suite) (ts a cls d)) (r : HdsMix X hds l) :
      HdsMix X (.ExceptHandler (some (.Name x np)) none (b₀ :: suite) pos' :: hds) ((c, none, ts) :: l)
  | consAs {x n : Str} {i : Nat} {c : Value} {ts : Addr → Value → Option Addr → TS} {b₀ : Stmt} {suite : List Stmt} {np pos' : Pos} {hds : List ExceptHandler} {l : List (Value × Option Nat × (Addr → Value → Option Addr → TS))} (hN : X.N.Nodup) (hi : X.N[i]? = some n) (hln : X.env.kindOf n = some .local) (hc : Names X x c)
      (hsu : ∀ (a : Addr) (oe : Obj) (cls : Value) (d : Option Addr) (pn : List (Addr × Obj)), Zc cls d oe → (∃ vs, oe.data = .fields vs) → PSs (X.suite a ((a, oe) :: pn)) (b₀ :: suite) (ts a cls d)) (r : HdsMix X hds l) :
      HdsMix X (.ExceptHandler (some (.Name x np)) (some n) (b₀ :: suite) pos' :: hds) ((c, some i, ts) :: l)
section
variable {X : Cx} {body : List Stmt} {h₀ : ExceptHandler} {hds : List ExceptHandler} {l : List (Value × Option Nat × (Addr → Value → Option Addr → TS))} {pos : Pos} {tb : WX → TS} {Wout : WX}
theorem ps_try_mix (hs : X.stack = X.env :: X.outer) (hf : X.env.frame = some X.env.locals) (tk : Takes X Wout)
    (hb : ∀ (W : WX) (pn : List (Addr × Obj)) (xe : Value → Shared → Prop), Takes (X.tr pn xe) W → PassesOwn (model X.prog X.w) X.A X.env xe → PSs (X.tr pn xe) body (tb W))
    (hh : HdsMix X (h₀ :: hds) l) : PS X (.Try body (h₀ :: hds) [] [] pos) (fun D σ H => tb (wMix X.K Wout D l) D σ H) := by
  refine ⟨fun pins s σ H D I h => ?_⟩
  have ok := I.ok
  have hfr : X.A.frames = some (X.env :: X.outer) := by rw [ok.frames, hs]
  refine wpAny_Try_except ?_
  refine wpAny_mono ((hb (wMix X.K Wout D l) (X.pn ++ pins) (fun e s₁ => wpAny (model X.prog X.w) X.A (noteFrame e X.env) (fun _ s₂ => wpAny (model X.prog X.w) X.A (setFlight e none) (fun _ s₃ =>
    wpAny (model X.prog X.w) X.A (handleBy e X.env (h₀ :: hds)) (SP X pins D) X.xe s₃) X.xe s₂) X.xe s₁) (fun u s' xx => ?_) PassesOwn.looking).run [] s σ H D (I.toTry _) h) (fun f s1 hsp => ?_) (fun e s1 he => he)
  · -- the catch
    obtain ⟨a, B, sI, pins', σ', H', cls, d, rfl, J', nb, up, sky, na, os, ag, w⟩ := xx
    have J : Inv X pins σ' H' sI := J'.ofTry ok
    have sky' : Sky B (X.env :: X.outer) a (Zc cls d) X.env.locals s'.heap := by rw [← hs]; exact sky
    show wpAny (model X.prog X.w) X.A (noteFrame (.ref a) X.env) _ _ _
    refine Sky.land Zc.steady hfr hf sky' fun h3 fl3 up3 => ?_
    have J3 : Inv X pins σ' H' { s' with heap := h3 } := J.landed nb fl3.1 (up.trans up3) os ag
    obtain ⟨oe3, vs3, he3, hz3, hd3⟩ := fl3.there
    have notFr : ∀ {h : Heap} {o : Obj} {vs : Array Value}, h.FunFrames B (X.env :: X.outer) → h.get? a = some o → o.data = .fields vs → a ∉ frs (X.env :: X.outer) := fun {h o vs} ff e dd hm => by
      obtain ⟨_, o', e', hnf⟩ := ff.mem hm
      rw [e] at e'; cases e'
      exact hnf _ dd
    have nfr := notFr fl3.2.2.1 he3 hd3
    have nL : a ≠ X.env.locals := fun z => nfr (List.mem_filterMap.mpr ⟨X.env, List.mem_cons_self, by rw [hf, z]⟩)
    have nF : a ∉ X.fs := fun hm => by
      obtain ⟨e, he, q⟩ := List.mem_filterMap.mp hm
      exact nfr (List.mem_filterMap.mpr ⟨e, List.mem_cons_of_mem _ he, q⟩)
    have S3 := J3.suite he3 hd3 na nL nF
    have go : ∀ {hds' : List ExceptHandler} {l' : List (Value × Option Nat × (Addr → Value → Option Addr → TS))}, HdsMix X hds' l' → wMix X.K Wout D l' cls d σ' H' →
        wpAny (model X.prog X.w) X.A (handleBy (.ref a) X.env hds') (SP X pins D) X.xe { s' with heap := h3 } := by
      intro hds' l' hk
      induction hk with
      | nil =>
        intro w
        refine wpAny_handleBy_nil ?_
        obtain ⟨k1, k2, k3, oe, vs, T, oT, ts', he, hz, hd, h1, hr⟩ := id fl3
        unfold PySem.passOn
        refine wpAny_bind (wpAny_field he hd h1 ?_)
        rw [if_neg (show ¬ ((Value.ref T == Value.none) = true) from by simp)]
        have fin : wpAny (model X.prog X.w) X.A (setFlight (.ref a) X.env.frame) (fun _ s4 => wpAny (model X.prog X.w) X.A (throw (.ref a) : Sem Flow) (SP X pins D) X.xe s4) X.xe { s' with heap := h3 } := by
          rw [hf]
          refine HandSPX.setFlight_upZ fl3 fun h4 hh4 up4 => wpAny_throw (tk _ _ ?_)
          exact ⟨a, B, sI, pins, σ', H', cls, d, rfl, J, nb, (up.trans up3).trans up4, .inr (.inr (by rw [hs]; exact hh4)), na, os, ag, w⟩
        first
          | exact wpAny_bind (wpAny_pure (wpAny_bind fin))
          | exact wpAny_bind fin
      | @cons x c ts b₀ suite np pos' hds2 l2 hc hsu r ih =>
        intro w
        obtain ⟨b, hb1, hyes, hno⟩ := w
        refine wpAny_handleBy_cons (codeAny_handlers_test ?_) (by intro q; cases q)
        have LT : PySem.W.Looks (model X.prog X.w) h3 (typeOf (.ref a)) cls := fun A Q E s k q => wpAny_typeOf_ref (k _ _ he3) (by rw [hz3.1]; exact q)
        have LM := PySem.W.exm_one (M := model X.prog X.w) (J3.kIn) LT hb1
        have test : ∀ {Q : Value → Shared → Prop} {E : Value → Shared → Prop}, Q c { s' with heap := h3 } → wpAny (model X.prog X.w) (X.A.mark (some (.ref a))) (eval (.Name x np) X.env) Q E { s' with heap := h3 } := fun {Q E} q => by
          obtain ⟨hg, hdbg, hm | ⟨hm, hv, hnn⟩⟩ := hc
          · exact ld_glob (X := X.suite a ((a, oe3) :: (X.pn ++ pins))) S3 hg hm q hdbg
          · exact ld_blt (X := X.suite a ((a, oe3) :: (X.pn ++ pins))) S3 hg hm hv q hnn hdbg
        refine test (LM.here ?_)
        cases b with
        | true =>
          refine codeAny_handlers_suite ?_
          refine HandSPX.lands_againZ fl3 fun h4 fl4 up4 => ?_
          have J4 : Inv X pins σ' H' { s' with heap := h4 } := J.landed nb fl4.1 ((up.trans up3).trans up4) os ag
          obtain ⟨oe4, vs4, he4, hz4, hd4⟩ := fl4.there
          have S4 := J4.suite he4 hd4 na nL nF
          refine wpAny_mono ((hsu a oe4 cls d (X.pn ++ pins) hz4 ⟨_, hd4⟩).run [] _ _ H' _ S4 (hyes rfl a na)) (fun f s6 hsp => ?_) (fun _ _ z => False.elim z)
          cases f with
          | next =>
            obtain ⟨σ6, H6, S6, q6⟩ := hsp
            exact ⟨_, _, S6.unsuite ok, q6⟩
          | brk =>
            obtain ⟨σ6, H6, S6, q6⟩ := hsp
            exact ⟨_, _, S6.unsuite ok, q6⟩
          | cont =>
            obtain ⟨σ6, H6, S6, q6⟩ := hsp
            exact ⟨_, _, S6.unsuite ok, q6⟩
          | ret u =>
            obtain ⟨v6, σ6, H6, S6, r6, q6⟩ := hsp
            exact ⟨_, _, _, S6.unsuite ok, r6, q6⟩
        | false =>
          show wpAny _ X.A (handleBy (.ref a) X.env hds2) _ _ _
          exact ih (hno rfl)
      | @consAs x n i c ts b₀ suite np pos' hds2 l2 hN hi hln hc hsu r ih =>
        intro w
        obtain ⟨b, hb1, hyes, hno⟩ := w
        refine wpAny_handleBy_cons (codeAny_handlers_test ?_) (by intro q; cases q)
        have LT : PySem.W.Looks (model X.prog X.w) h3 (typeOf (.ref a)) cls := fun A Q E s k q => wpAny_typeOf_ref (k _ _ he3) (by rw [hz3.1]; exact q)
        have LM := PySem.W.exm_one (M := model X.prog X.w) (J3.kIn) LT hb1
        have test : ∀ {Q : Value → Shared → Prop} {E : Value → Shared → Prop}, Q c { s' with heap := h3 } → wpAny (model X.prog X.w) (X.A.mark (some (.ref a))) (eval (.Name x np) X.env) Q E { s' with heap := h3 } := fun {Q E} q => by
          obtain ⟨hg, hdbg, hm | ⟨hm, hv, hnn⟩⟩ := hc
          · exact ld_glob (X := X.suite a ((a, oe3) :: (X.pn ++ pins))) S3 hg hm q hdbg
          · exact ld_blt (X := X.suite a ((a, oe3) :: (X.pn ++ pins))) S3 hg hm hv q hnn hdbg
        refine test (LM.here ?_)
        cases b with
        | true =>
          refine codeAny_handlers_suite_as ?_
          refine HandSPX.lands_againZ fl3 fun h4 fl4 up4 => ?_
          have J4 : Inv X pins σ' H' { s' with heap := h4 } := J.landed nb fl4.1 ((up.trans up3).trans up4) os ag
          obtain ⟨oe4, vs4, he4, hz4, hd4⟩ := fl4.there
          have S4 := J4.suite he4 hd4 na nL nF
          refine store_ok (X := X.suite a ((a, oe4) :: (X.pn ++ pins))) (v := .ref a) S4 hN hi (.inl hln) rfl (fun s5 S5 => ?_) (.inr hln)
          refine wpAny_mono ((hsu a oe4 cls d (X.pn ++ pins) hz4 ⟨_, hd4⟩).run [] s5 _ H' _ S5 (hyes rfl a na)) (fun f s6 hsp => ?_) (fun _ _ z => False.elim z)
          have end_ : ∀ {σ6 : St} {H6 : Hp} {Q : Shared → Prop}, Inv (X.suite a ((a, oe4) :: (X.pn ++ pins))) [] σ6 H6 s6 → (∀ s7, Inv X pins (σ6.set i none) H6 s7 → Q s7) →
              wpAny (model X.prog X.w) X.A (do bindName X.env n .none; unbindBehindTheSuite X.env n pos') (fun _ s7 => Q s7) X.xe s6 := fun {σ6 H6 Q} S6 hq => gone_ok (S6.unsuite ok) hN hi hln hq
          cases f with
          | next =>
            obtain ⟨σ6, H6, S6, q6⟩ := hsp
            exact end_ S6 fun s7 J7 => ⟨_, _, J7, q6⟩
          | brk =>
            obtain ⟨σ6, H6, S6, q6⟩ := hsp
            exact end_ S6 fun s7 J7 => ⟨_, _, J7, q6⟩
          | cont =>
            obtain ⟨σ6, H6, S6, q6⟩ := hsp
            exact end_ S6 fun s7 J7 => ⟨_, _, J7, q6⟩
          | ret u =>
            obtain ⟨v6, σ6, H6, S6, r6, q6⟩ := hsp
            exact end_ S6 fun s7 J7 => ⟨_, _, _, J7, r6, q6⟩
        | false =>
          show wpAny _ X.A (handleBy (.ref a) X.env hds2) _ _ _
          exact ih (hno rfl)
    exact go hh w
  · cases f with
    | next =>
      obtain ⟨σ', H', J', q⟩ := hsp
      exact wpAny_execs_nil ⟨σ', H', J'.ofTry ok, q⟩
    | brk =>
      obtain ⟨σ', H', J', q⟩ := hsp
      exact ⟨σ', H', J'.ofTry ok, q⟩
    | cont =>
      obtain ⟨σ', H', J', q⟩ := hsp
      exact ⟨σ', H', J'.ofTry ok, q⟩
    | ret u =>
      obtain ⟨v, σ', H', J', r, q⟩ := hsp
      exact ⟨v, σ', H', J'.ofTry ok, r, q⟩
end
end Rt

set_option Elab.async false
set_option linter.all false
set_option pp.deepTerms true
set_option pp.maxSteps 100000
set_option format.indent 1
set_option format.width 260
set_option maxRecDepth 100000
set_option maxHeartbeats 4000000
namespace K06
open PySem PySem.Spec PyProof.Rows L2 Rb Rx SX Tx Rg Rt
def topS (i : Nat) : Stmt := PySem.Challenge.pw_roomslaid_k06_refused_everywhere.main.body.getD i (.Pass ⟨0, 0, 0, 0⟩)
abbrev s_NoRoom_init : Stmt := inClass (topS 2) 0
abbrev s_NoPlace_init : Stmt := inClass (topS 3) 0
abbrev s_is_whole : Stmt := topS 5
abbrev s_is_within : Stmt := topS 6
abbrev s_cells_of : Stmt := topS 7
abbrev s_word_of : Stmt := topS 8
abbrev s_is_place : Stmt := topS 14
abbrev s_need_place : Stmt := topS 15
abbrev s_last_cell : Stmt := topS 16
abbrev s_cells_in : Stmt := topS 17
abbrev s_shares : Stmt := topS 18
abbrev s_Room_init : Stmt := inClass (topS 19) 0
abbrev s_Room_need_inside : Stmt := inClass (topS 19) 1
abbrev s_Room_taken : Stmt := inClass (topS 19) 2
abbrev s_Room_left : Stmt := inClass (topS 19) 3
abbrev s_Room_cells : Stmt := inClass (topS 19) 4
abbrev s_law_cell : Stmt := topS 21
abbrev s_law_begun : Stmt := topS 22
abbrev s_law_draw : Stmt := topS 23
abbrev s_law_place : Stmt := topS 24
abbrev s_law_told : Stmt := topS 25
abbrev s_law_same : Stmt := topS 26
abbrev s_law_bad : Stmt := topS 27
abbrev s_law_all_doors : Stmt := topS 28
abbrev s_law_past : Stmt := topS 29
abbrev s_law_no_room : Stmt := topS 30
abbrev s_law : Stmt := topS 31
theorem sc_NoRoom_init : FnScope ["self", "found"] ["self", "found"] (defScope s_NoRoom_init) := ⟨rfl, rfl, rfl, by decide +kernel, rfl, by decide +kernel, by decide +kernel⟩
theorem sc_NoPlace_init : FnScope ["self", "found"] ["self", "found"] (defScope s_NoPlace_init) := ⟨rfl, rfl, rfl, by decide +kernel, rfl, by decide +kernel, by decide +kernel⟩
theorem sc_is_whole : FnScope ["thing"] ["thing"] (defScope s_is_whole) := ⟨rfl, rfl, rfl, by decide +kernel, rfl, by decide +kernel, by decide +kernel⟩
theorem sc_is_within : FnScope ["thing", "low", "high"] ["thing", "low", "high"] (defScope s_is_within) := ⟨rfl, rfl, rfl, by decide +kernel, rfl, by decide +kernel, by decide +kernel⟩
theorem sc_cells_of : FnScope ["word", "width", "found", "k", "cell"] ["word", "width"] (defScope s_cells_of) := ⟨rfl, rfl, rfl, by decide +kernel, rfl, by decide +kernel, by decide +kernel⟩
theorem sc_word_of : FnScope ["cells", "word", "cell"] ["cells"] (defScope s_word_of) := ⟨rfl, rfl, rfl, by decide +kernel, rfl, by decide +kernel, by decide +kernel⟩
theorem sc_is_place : FnScope ["thing", "cell", "shift", "bits"] ["thing"] (defScope s_is_place) := ⟨rfl, rfl, rfl, by decide +kernel, rfl, by decide +kernel, by decide +kernel⟩
theorem sc_need_place : FnScope ["thing"] ["thing"] (defScope s_need_place) := ⟨rfl, rfl, rfl, by decide +kernel, rfl, by decide +kernel, by decide +kernel⟩
theorem sc_last_cell : FnScope ["place"] ["place"] (defScope s_last_cell) := ⟨rfl, rfl, rfl, by decide +kernel, rfl, by decide +kernel, by decide +kernel⟩
theorem sc_cells_in : FnScope ["place", "k"] ["place"] (defScope s_cells_in) := ⟨rfl, rfl, rfl, by decide +kernel, rfl, by decide +kernel, by decide +kernel⟩
theorem sc_shares : FnScope ["one", "other", "first", "second"] ["one", "other"] (defScope s_shares) := ⟨rfl, rfl, rfl, by decide +kernel, rfl, by decide +kernel, by decide +kernel⟩
theorem sc_Room_init : FnScope ["self", "wide"] ["self", "wide"] (defScope s_Room_init) := ⟨rfl, rfl, rfl, by decide +kernel, rfl, by decide +kernel, by decide +kernel⟩
theorem sc_Room_need_inside : FnScope ["self", "place"] ["self", "place"] (defScope s_Room_need_inside) := ⟨rfl, rfl, rfl, by decide +kernel, rfl, by decide +kernel, by decide +kernel⟩
theorem sc_Room_taken : FnScope ["self", "place", "cell", "shift", "bits"] ["self", "place"] (defScope s_Room_taken) := ⟨rfl, rfl, rfl, by decide +kernel, rfl, by decide +kernel, by decide +kernel⟩
theorem sc_Room_left : FnScope ["self", "place", "number", "cell", "shift", "bits", "others"] ["self", "place", "number"] (defScope s_Room_left) := ⟨rfl, rfl, rfl, by decide +kernel, rfl, by decide +kernel, by decide +kernel⟩
theorem sc_Room_cells : FnScope ["self"] ["self"] (defScope s_Room_cells) := ⟨rfl, rfl, rfl, by decide +kernel, rfl, by decide +kernel, by decide +kernel⟩
theorem sc_law_cell : FnScope ["_law_script", "_law_k", "_law_number"] ["_law_script", "_law_k"] (defScope s_law_cell) := ⟨rfl, rfl, rfl, by decide +kernel, rfl, by decide +kernel, by decide +kernel⟩
theorem sc_law_begun : FnScope ["_law_cell_here", "_law_rest"] ["_law_cell_here"] (defScope s_law_begun) := ⟨rfl, rfl, rfl, by decide +kernel, rfl, by decide +kernel, by decide +kernel⟩
theorem sc_law_draw : FnScope ["_law_state", "_law_many", "_law_found", "_law_number"] ["_law_state", "_law_many"] (defScope s_law_draw) := ⟨rfl, rfl, rfl, by decide +kernel, rfl, by decide +kernel, by decide +kernel⟩
theorem sc_law_place : FnScope ["_law_state", "_law_wide", "_law_cell_here", "_law_most", "_law_many"] ["_law_state", "_law_wide"] (defScope s_law_place) := ⟨rfl, rfl, rfl, by decide +kernel, rfl, by decide +kernel, by decide +kernel⟩
theorem sc_law_told : FnScope ["_law_room", "_law_door", "_law_one", "_law_other", "_law_told_here", "e"] ["_law_room", "_law_door", "_law_one", "_law_other"] (defScope s_law_told) := ⟨rfl, rfl, rfl, by decide +kernel, rfl, by decide +kernel, by decide +kernel⟩
theorem sc_law_same : FnScope ["_law_told_here", "_law_thing"] ["_law_told_here", "_law_thing"] (defScope s_law_same) := ⟨rfl, rfl, rfl, by decide +kernel, rfl, by decide +kernel, by decide +kernel⟩
theorem sc_law_bad : FnScope ["_law_state", "_law_wide", "_law_cell_here", "_law_shift", "_law_bits", "_law_way", "_law_some"] ["_law_state", "_law_wide"] (defScope s_law_bad) := ⟨rfl, rfl, rfl, by decide +kernel, rfl, by decide +kernel, by decide +kernel⟩
theorem sc_law_all_doors : FnScope ["_law_state", "_law_room", "_law_bad_here", "_law_good", "_law_shift", "_law_k", "_law_door", "_law_very", "_law_told_here"] ["_law_state", "_law_room", "_law_bad_here", "_law_good"] (defScope s_law_all_doors) := ⟨rfl, rfl, rfl, by decide +kernel, rfl, by decide +kernel, by decide +kernel⟩
theorem sc_law_past : FnScope ["_law_state", "_law_room", "_law_wide", "_law_many", "_law_some", "_law_spot", "_law_past_here", "_law_door", "_law_within", "_law_kept"] ["_law_state", "_law_room", "_law_wide"] (defScope s_law_past) := ⟨rfl, rfl, rfl, by decide +kernel, rfl, by decide +kernel, by decide +kernel⟩
theorem sc_law_no_room : FnScope ["_law_wide", "_law_refused", "e"] ["_law_wide"] (defScope s_law_no_room) := ⟨rfl, rfl, rfl, by decide +kernel, rfl, by decide +kernel, by decide +kernel⟩
theorem sc_law : FnScope ["_law_script", "_law_k", "_law_state", "_law_wide", "_law_room", "_law_good", "_law_cells", "_law_j", "_law_bad_here", "_law_none"] ["_law_script"] (defScope s_law) := ⟨rfl, rfl, rfl, by decide +kernel, rfl, by decide +kernel, by decide +kernel⟩
local macro_rules | `(tactic| walk_at "rd") => `(tactic| simp only [L2.start, wMix, rRepr, rIsX, rIsXT, gSlAll, rEqS, rNeL, rNeV, cxOf, tSeq, tAsg, tIfS, tTest, tB, tOp, tUn, tVar, tC, tCB, tCons, tNil, tRet, tRetN, tNext, tDrop, tBM, tBM0, tLst_n, tTup_n, tAnd, tOr, tNot, tAndV, tOrV, tNotV, tIf, tChain, tCall, gName, gTup, gCons, gNil, gUnl, gSub, rI, rI0, rU, rIxL, rIxT, rSlL_n, tSl, tPart, tNoPart, rCatR, rAppend_n, rExtend_n, rPop_n, rClear_n, rSetL_n, rInsert, rRemI_n, tMake_n, sFld_n, tFld, tMeth, rIn, tFor_n, tLc_n, iRngL1, iRngL2, iList, iTup, iRev, iZip, rDivmod, rListOf, rTupOf, rLenSeq, rMin2, rMax2, rAll, rAny, rIsi, tNever, tYes, wipe, tAug, ipI, rEq, rNe, tIsN, tNotN, tDNewK_n, tRz, tCallS, tMethX, tMakeX, tXfA, wAs, wOnly, tVeI, tOst, gSlS, iRng3, rSum, rStrI, rIsB, rNotB, rSlT, rIndex, rRep_n, rInt1, tLenSetS, scal_ii, scal_bb, scal_ss, scal_nn, scal_ni, scal_in, scal_ns, scal_sn, scal_is, scal_si, List.map_cons, List.map_nil, List.length_cons, List.length_nil, List.replicate, List.nil_append, List.cons_append, List.append_nil, List.getElem?_cons_zero, List.getElem?_cons_succ, List.set_cons_zero, List.set_cons_succ, List.set_nil, Nat.reduceAdd, Nat.reduceSub, Option.some.injEq, V.int.injEq, V.ref.injEq, V.bl.injEq, V.str.injEq, V.ty.injEq, List.cons.injEq, and_assoc, and_true, true_and, exists_eq_left, exists_eq_left', exists_and_left, exists_and_right, exists_eq, exists_eq', exists_eq_right, exists_eq_right', if_true, if_false, Bool.false_eq_true, Bool.not_true, Bool.not_false, if_pos, Int.toNat_natCast, decide_eq_true_eq, Bool.not_eq_true', decide_eq_false_iff_not, reduceCtorEq, false_and, and_false, exists_false, exists_const, rIxS, C8.rSlX, rJoinS, rSplitS, tBMS, rIndexX, iStr, tDisp, tPairs])
local macro_rules | `(tactic| walk_at "ex") => `(tactic| repeat' (first | assumption | (with_reducible refine Exists.intro _ ?_) | (with_reducible refine And.intro ?_ ?_) | rfl))

/-! ### the law's draws -/
def DSt (H : Hp) (a : Addr) : Prop := ∃ r n c : Int, H a = some (.lst [.int r, .int n, .int c])
def spCell (K : PySem.W.Frag) : Sp := fun vs H Q _ => ∃ (a : Addr) (ns : List Int) (k : Int), vs = [.ref a, .int k] ∧ SqL K H a (ns.map V.int) ∧ 0 ≤ k ∧ k ≤ 1000 ∧ ns.length ≤ 63 ∧ ∀ z, Q (.int z) H
def spBegun : Sp := fun vs H Q _ => ∃ (z : Int), vs = [.int z] ∧ ∀ p H1, H p = none → Same H H1 → DSt H1 p → Q (.ref p) H1
def spDraw : Sp := fun vs H Q _ => ∃ (a : Addr) (m : Int), vs = [.ref a, .int m] ∧ DSt H a ∧ 0 < m ∧ m < 2 ^ 200 ∧ ∀ v H1, 0 ≤ v → v < m → Off a H H1 → DSt H1 a → Q (.int v) H1
section
variable {P : Program} {w : World} {K : PySem.W.Frag} {mg : Str → Option Value} {base : Heap}
theorem ok_cell {f : Addr} {fd : FuncData} (F : Fun K "_law_cell" "_law_cell" s_law_cell f fd) (z_len : mg "len" = none) : FnOk P w K mg base CX0 1 f fd ["_law_script", "_law_k"] (spCell K) := by
  refine F.ok sc_law_cell (fun vs H Q E h => ?_) (fun cdv A outer s H vs Q E hr h => ?_)
  · obtain ⟨a, ns, k, rfl, _⟩ := h
    rfl
  · obtain ⟨a, ns, k, rfl, hS, hk, hk2, hl, q⟩ := h
    refine ⟨_, (pss_cons (ps_if (pt_cmpR op_lt (pv 1) (pe_callB (call_lenR (K := K)) (by rfl) z_len (by decide +kernel) (pa_cons (pv 0) pa_nil)) (nomark _)) (pss_one (ps_ret (pe_ix (ix_listK (K := K)) (pv 0) (pv 1) (fun _ _ => rfl)))) pss_nil)
      (pss_cons (ps_set (i := 2) sc_law_cell.nd rfl (by first | exact Or.inl rfl | exact Or.inr rfl) (pe_op op_add (pe_op op_mul (pv 1) pe_int) pe_int))
      (pss_cons (ps_if (pt_cmpR op_gt (pe_callB (call_lenR (K := K)) (by rfl) z_len (by decide +kernel) (pa_cons (pv 0) pa_nil)) pe_int (nomark _)) (pss_one (ps_set (i := 2) sc_law_cell.nd rfl (by first | exact Or.inl rfl | exact Or.inr rfl) (pe_op op_modN (pe_op op_add (pe_op op_mul (pe_ix (ix_listK (K := K)) (pv 0) (pe_op op_modN (pe_op op_mul (pv 1) pe_int) (pe_callB (call_lenR (K := K)) (by rfl) z_len (by decide +kernel) (pa_cons (pv 0) pa_nil))) (fun _ _ => rfl)) pe_int) (pe_op op_mul (pv 1) pe_int)) pe_int))) pss_nil)
      (pss_one (ps_ret (pe_op op_modN (pe_op op_mulX (pv 2) (pv 2)) pe_int)))))), ?_⟩
    walk_at "rd"
    have atk : ∀ j : Int, 0 ≤ j → j < (ns.map V.int).length → ∃ z, atI (ns.map V.int) j = some (V.int z) := fun j h0 h1 => by
      have hj : j.toNat < ns.length := by rw [List.length_map] at h1; omega
      refine ⟨ns[j.toNat], at_of (j := j.toNat) (by omega) ?_⟩
      rw [List.getElem?_map, List.getElem?_eq_getElem hj]
      rfl
    refine ⟨_, .inl hS, ite2 (fun c => ?_) (fun c => ?_)⟩
    · obtain ⟨z, hz⟩ := atk k hk c
      exact ⟨_, hS, _, hz, q z⟩
    · refine ⟨.inr ⟨by decide, by decide⟩, _, .inl hS, ite2 (fun c2 => ?_) (fun c2 => ?_)⟩
      · have m1 := Int.fmod_nonneg_of_pos (k * 7) c2
        have m2 := Int.fmod_lt_of_pos (k * 7) c2
        obtain ⟨z, hz⟩ := atk _ m1 m2
        refine ⟨.inr ⟨by decide, by decide⟩, _, .inl hS, by omega, _, hS, _, hz, _, rfl, .inr ⟨by decide, by decide⟩, .inr ⟨by decide, by decide⟩, by decide, ?_, by decide, q _⟩
        have p1 := Int.fmod_nonneg_of_pos (z * 48271 + k * 7919) (show (0 : Int) < 2147483647 by decide)
        have p2 := Int.fmod_lt_of_pos (z * 48271 + k * 7919) (show (0 : Int) < 2147483647 by decide)
        exact mulx_ok (a := 40) (b := 40) (by omega) (by omega) (by decide)
      · exact ⟨mulx_ok (a := 40) (b := 40) (by omega) (by omega) (by decide), by decide, q _⟩
theorem ok_begun {f : Addr} {fd : FuncData} (F : Fun K "_law_begun" "_law_begun" s_law_begun f fd) : FnOk P w K mg base CX0 1 f fd ["_law_cell_here"] spBegun := by
  refine F.ok sc_law_begun (fun vs H Q E h => ?_) (fun cdv A outer s H vs Q E hr h => ?_)
  · obtain ⟨z, rfl, _⟩ := h
    rfl
  · obtain ⟨z, rfl, q⟩ := h
    refine ⟨_, (pss_cons (ps_set (i := 1) sc_law_begun.nd rfl (by first | exact Or.inl rfl | exact Or.inr rfl) pe_int)
      (pss_cons (ps_if (pt_cmpR op_ge (pv 0) (pe_op op_pow pe_int pe_int) (nomark _)) (pss_one (ps_set (i := 1) sc_law_begun.nd rfl (by first | exact Or.inl rfl | exact Or.inr rfl) (pv 0))) pss_nil)
      (pss_one (ps_ret (pe_lst (pa_cons (pv 1) (pa_cons pe_int (pa_cons (pe_op op_modN (pv 0) pe_int) pa_nil)))))))), ?_⟩
    walk_at "rd"
    refine ⟨⟨by decide, by decide, by decide⟩, ite2 (fun c => ?_) (fun c => ?_)⟩
    all_goals exact ⟨by decide, by decide, New.intro fun p H1 np s1 h1 => q p H1 np s1 ⟨_, _, _, h1⟩⟩
theorem ok_draw {f : Addr} {fd : FuncData} (F : Fun K "_law_draw" "_law_draw" s_law_draw f fd) : FnOk P w K mg base CX0 1 f fd ["_law_state", "_law_many"] spDraw := by
  refine F.ok sc_law_draw (fun vs H Q E h => ?_) (fun cdv A outer s H vs Q E hr h => ?_)
  · obtain ⟨a, m, rfl, _⟩ := h
    rfl
  · obtain ⟨a, m, rfl, ⟨r, n, c, h0⟩, hm, hm2, q⟩ := h
    refine ⟨_, (pss_cons (ps_if (pt_cmpR op_gt (pe_ix (ix_listK (K := K)) (pv 0) pe_int (fun _ _ => rfl)) pe_int (nomark _)) (pss_cons (ps_set (i := 2) sc_law_draw.nd rfl (by first | exact Or.inl rfl | exact Or.inr rfl) (pe_op op_modN (pe_ix (ix_listK (K := K)) (pv 0) pe_int (fun _ _ => rfl)) (pv 1)))
      (pss_cons (ps_asg (pe_op op_fdivW (pe_ix (ix_listK (K := K)) (pv 0) pe_int (fun _ _ => rfl)) (pv 1)) (pg_sub (pv 0) pe_int set_list))
      (pss_one (ps_ret (pv 2))))) pss_nil)
      (pss_cons (ps_asg (pe_op op_add (pe_ix (ix_listK (K := K)) (pv 0) pe_int (fun _ _ => rfl)) pe_int) (pg_sub (pv 0) pe_int set_list))
      (pss_cons (ps_set (i := 3) sc_law_draw.nd rfl (by first | exact Or.inl rfl | exact Or.inr rfl) (pe_op op_modN (pe_op op_add (pe_op op_mul (pe_ix (ix_listK (K := K)) (pv 0) pe_int (fun _ _ => rfl)) pe_int) (pe_op op_mul (pe_ix (ix_listK (K := K)) (pv 0) pe_int (fun _ _ => rfl)) pe_int)) pe_int))
      (pss_cons (ps_set (i := 3) sc_law_draw.nd rfl (by first | exact Or.inl rfl | exact Or.inr rfl) (pe_op op_modN (pe_op op_add (pe_op op_mulX (pv 3) (pv 3)) (pe_op op_mul (pe_ix (ix_listK (K := K)) (pv 0) pe_int (fun _ _ => rfl)) pe_int)) pe_int))
      (pss_one (ps_ret (pe_op op_modN (pe_op op_modN (pe_op op_mulX (pv 3) (pv 3)) pe_int) (pv 1)))))))), ?_⟩
    walk_at "rd"
    have sq : ∀ {H1 : Hp} {r n c : Int}, H1 a = some (.lst [.int r, .int n, .int c]) → SqL K H1 a [.int r, .int n, .int c] := fun h => seq_of h
    refine ⟨_, sq h0, _, rfl, _, rfl, ite2 (fun d => ?_) (fun d => ?_)⟩
    · refine ⟨_, sq h0, _, rfl, _, rfl, by omega, _, sq h0, _, rfl, _, rfl, wide_div (b := 200) hm (by omega) (by decide) (by decide), _, h0, _, rfl, Upd.intro fun H2 o2 h2 => ?_⟩
      exact q _ _ (Int.fmod_nonneg_of_pos _ hm) (Int.fmod_lt_of_pos _ hm) o2 ⟨_, _, _, h2⟩
    · refine ⟨_, sq h0, _, rfl, _, rfl, _, h0, _, rfl, Upd.intro fun H1 o1 h1 => ?_⟩
      have p1 := Int.fmod_nonneg_of_pos (c * 48271 + (n + 1) * 1299709) (show (0 : Int) < 2147483647 by decide)
      have p2 := Int.fmod_lt_of_pos (c * 48271 + (n + 1) * 1299709) (show (0 : Int) < 2147483647 by decide)
      refine ⟨_, sq h1, _, rfl, _, rfl, .inr ⟨by decide, by decide⟩, _, sq h1, _, rfl, _, rfl, .inr ⟨by decide, by decide⟩, by decide, mulx_ok (a := 40) (b := 40) (by omega) (by omega) (by decide), _, sq h1, _, rfl, _, rfl, .inr ⟨by decide, by decide⟩, by decide, ?_⟩
      have q1 := Int.fmod_nonneg_of_pos ((c * 48271 + (n + 1) * 1299709).fmod 2147483647 * (c * 48271 + (n + 1) * 1299709).fmod 2147483647 + (n + 1) * 7919) (show (0 : Int) < 2147483629 by decide)
      have q2 := Int.fmod_lt_of_pos ((c * 48271 + (n + 1) * 1299709).fmod 2147483647 * (c * 48271 + (n + 1) * 1299709).fmod 2147483647 + (n + 1) * 7919) (show (0 : Int) < 2147483629 by decide)
      refine ⟨mulx_ok (a := 40) (b := 40) (by omega) (by omega) (by decide), by decide, by omega, ?_⟩
      exact q _ _ (Int.fmod_nonneg_of_pos _ hm) (Int.fmod_lt_of_pos _ hm) o1 ⟨_, _, _, h1⟩
end

/-! ### words.py -/
def isIn : V → Int → Int → Bool
  | .int i, lo, hi => decide (lo ≤ i) && decide (i ≤ hi)
  | _, _, _ => false
def spIsWhole (K : PySem.W.Frag) : Sp := fun vs H Q _ => ∃ (x : V) (T : String), vs = [x] ∧ Thg K H x T ∧ Q (.bl (isWh x)) H
def spIsWithin (K : PySem.W.Frag) : Sp := fun vs H Q _ => ∃ (x : V) (T : String) (lo hi : Int), vs = [x, .int lo, .int hi] ∧ Thg K H x T ∧ Q (.bl (isIn x lo hi)) H
section
variable {P : Program} {w : World} {K : PySem.W.Frag} {mg : Str → Option Value} {base : Heap}
theorem ok_isWhole {f : Addr} {fd : FuncData} (F : Fun K "is_whole" "is_whole" s_is_whole f fd) (z_isinstance : mg "isinstance" = none) (z_int : mg "int" = none) (z_bool : mg "bool" = none) : FnOk P w K mg base CX0 1 f fd ["thing"] (spIsWhole K) := by
  refine F.ok sc_is_whole (fun vs H Q E h => ?_) (fun cdv A outer s H vs Q E hr h => ?_)
  · obtain ⟨x, T, rfl, _⟩ := h
    rfl
  · obtain ⟨x, T, rfl, t, q⟩ := h
    refine ⟨_, (pss_one (ps_ret (pe_and (pe_callB (call_isiK' (K := K)) (by rfl) z_isinstance (by decide +kernel) (pa_cons (pv 0) (pa_cons (pe_bltn (v := V.ty "int") (u := Value.type "int") (by rfl) z_int (by decide +kernel) rfl) pa_nil))) (pe_one (pe_not (pe_callB (call_isiK' (K := K)) (by rfl) z_isinstance (by decide +kernel) (pa_cons (pv 0) (pa_cons (pe_bltn (v := V.ty "bool") (u := Value.type "bool") (by rfl) z_bool (by decide +kernel) rfl) pa_nil)))))))), ?_⟩
    walk_at "rd"
    have e := isWh_of t
    refine isiT t (by decide) (ite2 (fun c => isiT t (by decide) ?_) (fun c => ?_))
    · rw [c, Bool.true_and] at e
      rw [e]
      exact q
    · rw [Bool.eq_false_iff.mpr c, Bool.false_and] at e
      rw [e]
      exact q
theorem ok_isWithin {f : Addr} {fd : FuncData} (F : Fun K "is_within" "is_within" s_is_within f fd) (D_is_whole : Dn P w K mg base CX0 1 "is_whole" ["thing"] (spIsWhole K)) : FnOk P w K mg base CX0 2 f fd ["thing", "low", "high"] (spIsWithin K) := by
  refine F.ok sc_is_within (fun vs H Q E h => ?_) (fun cdv A outer s H vs Q E hr h => ?_)
  · obtain ⟨x, T, lo, hi, rfl, _⟩ := h
    rfl
  · obtain ⟨x, T, lo, hi, rfl, t, q⟩ := h
    refine ⟨_, (pss_one (ps_ret (pe_and (pe_cd D_is_whole (hr.mono (by decide)) (by rfl) pass0 (pa_cons (pv 0) pa_nil)) (pe_one (pe_chain op_le op_le (pv 1) (pv 0) (pv 2)))))), ?_⟩
    walk_at "rd"
    refine ⟨x, T, rfl, t, _, rfl, ?_⟩
    cases x with
    | int i =>
      have e : isIn (.int i) lo hi = (decide (lo ≤ i) && decide (i ≤ hi)) := rfl
      rw [e] at q
      refine iteT ⟨i, rfl, ite2 (fun c => ⟨i, rfl, ?_⟩) (fun c => ?_)⟩
      · rw [decide_eq_true c, Bool.true_and] at q
        exact q
      · rw [decide_eq_false c, Bool.false_and] at q
        exact q
    | _ => exact iteF q
end

/-! ### refusals with one field -/
/-- the field found alone -/
def FoundAt (H : Hp) (d : Addr) (x : V) : Prop := H d = some (.xd [("found", x)])
/-- C of x is raised -/
def Refuses (C : Addr) (H : Hp) (x : V) (E : XK) : Prop := ∀ d H1, H d = none → Same H H1 → FoundAt H1 d x → E (.ref C) (some d) H1

section
variable {P : Program} {w : World} {K : PySem.W.Frag} {mg : Str → Option Value} {base : Heap}
theorem ok_NoPlace {f C_NoPlace C_RoomError : Addr} {fd : FuncData} (F : Fun K "__init__" "NoPlace.__init__" s_NoPlace_init f fd) (O_NoPlace : OexC K C_NoPlace) (G_RoomError : mg "RoomError" = some (.ref C_RoomError)) (R_RoomError : ClX.CRead K C_RoomError (.type "type")) (V_RoomError : PySem.W.findCls K (.ref C_RoomError) (.type "type") "__init__" = some (.val (.builtin "ValueError.__init__"))) (B_NoPlace_found : PySem.W.findIn K (.ref C_NoPlace) "found" = some none) : FnOk P w K mg base CX0 1 f fd ["self", "found"] (spX C_NoPlace ["found"]) := by
  refine F.ok sc_NoPlace_init (fun vs H Q E h => ?_) (fun cdv A outer s H vs Q E hr h => ?_)
  · obtain ⟨a, ys, rfl, hl, _⟩ := h
    match ys, hl with
    | [y], _ => rfl
  · obtain ⟨a, ys, rfl, hl, ha, q⟩ := h
    obtain ⟨y, rfl⟩ : ∃ y, ys = [y] := by
      match ys, hl with
      | [y], _ => exact ⟨y, rfl⟩
    refine ⟨_, (pss_cons (ps_expr (pe_roinit (by rfl) G_RoomError R_RoomError V_RoomError (pa_cons (pv 0) (pa_cons pe_str pa_nil)) (K := K)))
      (pss_one (ps_ostK (pv 0) (pv 1) (K := K)))), ?_⟩
    walk_at "rd"
    exact ⟨by decide, _, O_NoPlace, ha, _, O_NoPlace, B_NoPlace_found, .inl ⟨ha, fun dx nd nda => q dx _ nd nda upd_same (by rw [upd_ne nda]; exact upd_same) (fun b h1 h2 => by rw [upd_ne h1, upd_ne h2])⟩⟩
end

section
variable {P : Program} {w : World} {K : PySem.W.Frag} {mg : Str → Option Value} {base : Heap}
theorem ok_NoRoom {f C_NoRoom C_RoomError : Addr} {fd : FuncData} (F : Fun K "__init__" "NoRoom.__init__" s_NoRoom_init f fd) (O_NoRoom : OexC K C_NoRoom) (G_RoomError : mg "RoomError" = some (.ref C_RoomError)) (R_RoomError : ClX.CRead K C_RoomError (.type "type")) (V_RoomError : PySem.W.findCls K (.ref C_RoomError) (.type "type") "__init__" = some (.val (.builtin "ValueError.__init__"))) (B_NoRoom_found : PySem.W.findIn K (.ref C_NoRoom) "found" = some none) : FnOk P w K mg base CX0 1 f fd ["self", "found"] (spX C_NoRoom ["found"]) := by
  refine F.ok sc_NoRoom_init (fun vs H Q E h => ?_) (fun cdv A outer s H vs Q E hr h => ?_)
  · obtain ⟨a, ys, rfl, hl, _⟩ := h
    match ys, hl with
    | [y], _ => rfl
  · obtain ⟨a, ys, rfl, hl, ha, q⟩ := h
    obtain ⟨y, rfl⟩ : ∃ y, ys = [y] := by
      match ys, hl with
      | [y], _ => exact ⟨y, rfl⟩
    refine ⟨_, (pss_cons (ps_expr (pe_roinit (by rfl) G_RoomError R_RoomError V_RoomError (pa_cons (pv 0) (pa_cons pe_str pa_nil)) (K := K)))
      (pss_one (ps_ostK (pv 0) (pv 1) (K := K)))), ?_⟩
    walk_at "rd"
    exact ⟨by decide, _, O_NoRoom, ha, _, O_NoRoom, B_NoRoom_found, .inl ⟨ha, fun dx nd nda => q dx _ nd nda upd_same (by rw [upd_ne nda]; exact upd_same) (fun b h1 h2 => by rw [upd_ne h1, upd_ne h2])⟩⟩
end

/-! ### room.py: places -/
def okP (c s b : Int) : Bool := decide (0 ≤ c) && (if b = 2 then decide (0 ≤ s) && decide (s < 8) && decide (s % 2 = 0) else decide (s = 0) && decide (8 ≤ b) && decide (b ≤ 512) && decide (b % 8 = 0))
def placeOk (xs : List V) : Bool := match xs with
  | [v, v1, v2] => (match v, v1, v2 with
    | .int c, .int s, .int b => okP c s b
    | _, _, _ => false)
  | _ => false
def spIsPlace (K : PySem.W.Frag) : Sp := fun vs H Q _ => ∃ (x : V) (T : String), vs = [x] ∧ Thg K H x T ∧
  ((T ≠ "tuple" ∧ Q (.bl false) H) ∨ ∃ a xs, x = .ref a ∧ SqT K H a xs ∧ (∀ y ∈ xs, ∃ T, Thg K H y T) ∧ Q (.bl (placeOk xs)) H)
section
variable {P : Program} {w : World} {K : PySem.W.Frag} {mg : Str → Option Value} {base : Heap}
theorem ok_isPlace {f : Addr} {fd : FuncData} (F : Fun K "is_place" "is_place" s_is_place f fd) (z_isinstance : mg "isinstance" = none) (z_tuple : mg "tuple" = none) (z_len : mg "len" = none)
    (c_TAG_BITS : ∃ t, mg "TAG_BITS" = some (.int 2 t)) (c_CELL_BITS : ∃ t, mg "CELL_BITS" = some (.int 8 t)) (c_MOST_BITS : ∃ t, mg "MOST_BITS" = some (.int 512 t))
    (D_is_whole : Dn P w K mg base CX0 1 "is_whole" ["thing"] (spIsWhole K)) : FnOk P w K mg base CX0 2 f fd ["thing"] (spIsPlace K) := by
  refine F.ok sc_is_place (fun vs H Q E h => ?_) (fun cdv A outer s H vs Q E hr h => ?_)
  · obtain ⟨x, T, rfl, _⟩ := h
    rfl
  · obtain ⟨x, T, rfl, t, q⟩ := h
    refine ⟨_, (pss_cons (ps_if (PW.pt (pw_or (pt_not (pt_val (pe_callB (call_isiK' (K := K)) (by rfl) z_isinstance (by decide +kernel) (pa_cons (pv 0) (pa_cons (pe_bltn (v := V.ty "tuple") (u := Value.type "tuple") (by rfl) z_tuple (by decide +kernel) rfl) pa_nil))))) (pw_or1 (pt_cmpR op_ne (pe_callB (call_lenR (K := K)) (by rfl) z_len (by decide +kernel) (pa_cons (pv 0) pa_nil)) pe_int (nomark _))))) (pss_one (ps_ret pe_bl)) pss_nil)
      (pss_cons (ps_asg (pv 0) (pg_tup rfl (pgs_cons (pg_name (i := 1) sc_is_place.nd rfl (by first | exact Or.inl rfl | exact Or.inr rfl)) (pgs_cons (pg_name (i := 2) sc_is_place.nd rfl (by first | exact Or.inl rfl | exact Or.inr rfl)) (pgs_cons (pg_name (i := 3) sc_is_place.nd rfl (by first | exact Or.inl rfl | exact Or.inr rfl)) pgs_nil)))))
      (pss_cons (ps_if (PW.pt (pw_or (pt_not (pt_val (pe_cd D_is_whole (hr.mono (by decide)) (by rfl) pass0 (pa_cons (pv 1) pa_nil)))) (pw_or (pt_not (pt_val (pe_cd D_is_whole (hr.mono (by decide)) (by rfl) pass0 (pa_cons (pv 2) pa_nil)))) (pw_or (pt_not (pt_val (pe_cd D_is_whole (hr.mono (by decide)) (by rfl) pass0 (pa_cons (pv 3) pa_nil)))) (pw_or1 (pt_cmpR op_lt (pv 1) pe_int (nomark _))))))) (pss_one (ps_ret pe_bl)) pss_nil)
      (pss_cons (ps_if (pt_cmpR op_eq (pv 3) (pe_gi (by rfl) c_TAG_BITS) (nomark _)) (pss_one (ps_ret (pe_and (pe_chain op_le op_lt pe_int (pv 2) (pe_gi (by rfl) c_CELL_BITS)) (pe_one (pe_cmpR op_eq (pe_op op_modN (pv 2) (pe_gi (by rfl) c_TAG_BITS)) pe_int (nomark _)))))) pss_nil)
      (pss_one (ps_ret (pe_and (pe_cmpR op_eq (pv 2) pe_int (nomark _)) (pe_and (pe_chain op_le op_le (pe_gi (by rfl) c_CELL_BITS) (pv 3) (pe_gi (by rfl) c_MOST_BITS)) (pe_one (pe_cmpR op_eq (pe_op op_modN (pv 3) (pe_gi (by rfl) c_CELL_BITS)) pe_int (nomark _))))))))))), ?_⟩
    walk_at "rd"
    rcases q with ⟨hT, q⟩ | ⟨a, xs, rfl, hS, hk, q⟩
    · refine isiT t (by decide) (iteP ?_ q)
      simp [kindIs, hT]
    · refine isiT (thg_tup hS) (by decide) (iteN (by decide) ⟨a, rfl, xs, .inr hS, ite2 (fun l3 => ?_) (fun l3 => ?_)⟩)
      · have e : placeOk xs = false := by
          match xs with
          | [] => rfl
          | [_] => rfl
          | [_, _] => rfl
          | [_, _, _] => exact absurd rfl l3
          | _ :: _ :: _ :: _ :: _ => rfl
        rw [e] at q
        exact q
      · obtain ⟨v, v1, v2, rfl⟩ : ∃ v v1 v2, xs = [v, v1, v2] := by
          match xs, l3 with
          | [v, v1, v2], _ => exact ⟨v, v1, v2, rfl⟩
          | [], c => exact absurd (fun h => by cases h) c
          | [_], c => exact absurd (fun h => by cases h) c
          | [_, _], c => exact absurd (fun h => by cases h) c
          | _ :: _ :: _ :: _ :: r, c =>
            refine absurd (fun h => ?_) c
            simp only [List.length_cons] at h
            omega
        obtain ⟨T1, t1⟩ := hk v (by simp)
        obtain ⟨T2, t2⟩ := hk v1 (by simp)
        obtain ⟨T3, t3⟩ := hk v2 (by simp)
        refine ⟨a, rfl, _, hS, rfl, _, _, rfl, _, _, rfl, _, _, rfl, rfl, ?_⟩
        refine ⟨v, T1, rfl, t1, _, rfl, ?_⟩
        have no : ∀ {v v1 v2 : V}, (∀ c s b, ¬ (v = .int c ∧ v1 = .int s ∧ v2 = .int b)) → placeOk [v, v1, v2] = false := fun {v v1 v2} h => by
          unfold placeOk
          dsimp only
          split
          · exact absurd ⟨rfl, rfl, rfl⟩ (h _ _ _)
          · rfl
        refine ite2 (fun w1 => ?_) (fun w1 => ⟨v1, T2, rfl, t2, _, rfl, ite2 (fun w2 => ?_) (fun w2 => ⟨v2, T3, rfl, t3, _, rfl, ite2 (fun w3 => ?_) (fun w3 => ?_)⟩)⟩)
        · rw [no (fun c s b h => by rw [h.1] at w1; cases w1)] at q
          exact q
        · rw [no (fun c s b h => by rw [h.2.1] at w2; cases w2)] at q
          exact q
        · rw [no (fun c s b h => by rw [h.2.2] at w3; cases w3)] at q
          exact q
        · clear l3
          obtain ⟨c, rfl⟩ : ∃ c, v = .int c := by cases v <;> first | exact ⟨_, rfl⟩ | exact absurd rfl w1
          obtain ⟨s, rfl⟩ : ∃ c, v1 = .int c := by cases v1 <;> first | exact ⟨_, rfl⟩ | exact absurd rfl w2
          obtain ⟨b, rfl⟩ : ∃ c, v2 = .int c := by cases v2 <;> first | exact ⟨_, rfl⟩ | exact absurd rfl w3
          have key : ∀ B : Bool, okP c s b = B → Q (.bl B) H := fun B e => by
            rw [← e]
            exact q
          walk_at "rd"
          have e2 : s.fmod 2 = s % 2 := Int.fmod_eq_emod_of_nonneg s (by decide)
          have e8 : b.fmod 8 = b % 8 := Int.fmod_eq_emod_of_nonneg b (by decide)
          rw [e2, e8]
          unfold okP at key
          refine ite2 (fun c0 => key _ ?_) (fun c0 => ite2 (fun h2 => ite2 (fun s0 => ite2 (fun s8 => ⟨by decide, key _ ?_⟩) (fun s8 => key _ ?_)) (fun s0 => key _ ?_)) (fun h2 => ite2 (fun s0 => ite2 (fun b8 => ite2 (fun b5 => ⟨by decide, key _ ?_⟩) (fun b5 => key _ ?_)) (fun b8 => key _ ?_)) (fun s0 => key _ ?_)))
          · rw [decide_eq_false (by omega), Bool.false_and]
          all_goals rw [decide_eq_true (show 0 ≤ c by omega), Bool.true_and]
          · rw [if_pos h2, decide_eq_true s0, decide_eq_true s8, Bool.true_and, Bool.true_and]
          · rw [if_pos h2, decide_eq_false s8, Bool.and_false, Bool.false_and]
          · rw [if_pos h2, decide_eq_false s0, Bool.false_and, Bool.false_and]
          · rw [if_neg h2, decide_eq_true s0, decide_eq_true b8, decide_eq_true b5, Bool.true_and, Bool.true_and, Bool.true_and]
          · rw [if_neg h2, decide_eq_false b5, Bool.and_false, Bool.false_and]
          · rw [if_neg h2, decide_eq_false b8, Bool.and_false, Bool.false_and, Bool.false_and]
          · rw [if_neg h2, decide_eq_false s0, Bool.false_and, Bool.false_and, Bool.false_and]
end
/-! places that are places -/
def lastC (c s b : Int) : Int := c + (s + b - 1) / 8
theorem okP_last {c s b : Int} (h : okP c s b = true) : 0 ≤ c ∧ 0 ≤ s ∧ s < 8 ∧ 2 ≤ b ∧ b ≤ 512 ∧ c ≤ lastC c s b ∧ lastC c s b ≤ c + 64 := by
  unfold okP at h
  unfold lastC
  rw [Bool.and_eq_true] at h
  obtain ⟨h0, h⟩ := h
  have h0 := of_decide_eq_true h0
  split at h
  · simp only [Bool.and_eq_true, decide_eq_true_eq] at h
    omega
  · simp only [Bool.and_eq_true, decide_eq_true_eq] at h
    omega
def cellsR (c s b : Int) : List Int := (List.range (lastC c s b - c + 1).toNat).map fun (k : Nat) => c + (k : Int)
def spLastCell (K : PySem.W.Frag) : Sp := fun vs H Q _ => ∃ (a : Addr) (c s b : Int), vs = [.ref a] ∧ SqT K H a [.int c, .int s, .int b] ∧ Q (.int (lastC c s b)) H
def spNeedOk (K : PySem.W.Frag) : Sp := fun vs H Q _ => ∃ (a : Addr) (c s b : Int), vs = [.ref a] ∧ SqT K H a [.int c, .int s, .int b] ∧ okP c s b = true ∧ Q .non H
def spCellsIn (K : PySem.W.Frag) : Sp := fun vs H Q _ => ∃ (a : Addr) (c s b : Int), vs = [.ref a] ∧ SqT K H a [.int c, .int s, .int b] ∧ okP c s b = true ∧ ∀ p H1, H p = none → Same H H1 → H1 p = some (.lst ((cellsR c s b).map V.int)) → Q (.ref p) H1
section
variable {P : Program} {w : World} {K : PySem.W.Frag} {mg : Str → Option Value} {base : Heap}
theorem ok_lastCell {f : Addr} {fd : FuncData} (F : Fun K "last_cell" "last_cell" s_last_cell f fd) (c_CELL_BITS : ∃ t, mg "CELL_BITS" = some (.int 8 t)) : FnOk P w K mg base CX0 1 f fd ["place"] (spLastCell K) := by
  refine F.ok sc_last_cell (fun vs H Q E h => ?_) (fun cdv A outer s H vs Q E hr h => ?_)
  · obtain ⟨a, c, s, b, rfl, _⟩ := h
    rfl
  · obtain ⟨a, c, s, b, rfl, hS, q⟩ := h
    refine ⟨_, (pss_one (ps_ret (pe_op op_add (pe_ix (ix_tupK (K := K)) (pv 0) pe_int (fun _ _ => rfl)) (pe_op op_fdivW (pe_op op_sub (pe_op op_add (pe_ix (ix_tupK (K := K)) (pv 0) pe_int (fun _ _ => rfl)) (pe_ix (ix_tupK (K := K)) (pv 0) pe_int (fun _ _ => rfl))) pe_int) (pe_gi (by rfl) c_CELL_BITS))))), ?_⟩
    walk_at "rd"
    exact ⟨_, hS, _, rfl, _, hS, _, rfl, _, hS, _, rfl, _, rfl, _, rfl, ⟨by decide, by decide⟩, _, rfl, q⟩
end

/-! ### room.py: what refuses -/
def PlaceTh (K : PySem.W.Frag) (H : Hp) (x : V) (ok : Bool) : Prop := (∃ T, Th K H x T ∧ T ≠ "tuple" ∧ ok = false) ∨ ∃ a xs, x = .ref a ∧ SqT K H a xs ∧ (∀ y ∈ xs, ∃ T, Th K H y T) ∧ ok = placeOk xs
theorem PlaceTh.same {K : PySem.W.Frag} {H H' : Hp} {x : V} {ok : Bool} (h : PlaceTh K H x ok) (s : Same H H') : PlaceTh K H' x ok := by
  rcases h with ⟨T, t, n, e⟩ | ⟨a, xs, e, h, hy, eo⟩
  · exact .inl ⟨T, t.same s, n, e⟩
  · exact .inr ⟨a, xs, e, Same.seqT s h, fun y hm => let ⟨T, t⟩ := hy y hm; ⟨T, t.same s⟩, eo⟩
theorem placeTh_ints {K : PySem.W.Frag} {H : Hp} {a : Addr} {c s b : Int} (h : SqT K H a [.int c, .int s, .int b]) : PlaceTh K H (.ref a) (okP c s b) := by
  refine .inr ⟨a, _, rfl, h, fun y hy => ⟨"int", ?_⟩, rfl⟩
  simp only [List.mem_cons, List.not_mem_nil, or_false] at hy
  rcases hy with rfl | rfl | rfl <;> exact .int _
theorem placeOk_ints {xs : List V} (h : placeOk xs = true) : ∃ c s b : Int, xs = [.int c, .int s, .int b] ∧ okP c s b = true := by
  unfold placeOk at h
  split at h
  · split at h
    · exact ⟨_, _, _, rfl, h⟩
    · cases h
  · cases h
def spNeed (K : PySem.W.Frag) (C : Addr) : Sp := fun vs H Q E => ∃ (x : V) (ok : Bool), vs = [x] ∧ PlaceTh K H x ok ∧ (ok = true → Q .non H) ∧ (ok = false → Refuses C H x E)
def spCellsInX (K : PySem.W.Frag) (C : Addr) : Sp := fun vs H Q E => ∃ (x : V), vs = [x] ∧
  ((∃ (a : Addr) (c s b : Int), x = .ref a ∧ SqT K H a [.int c, .int s, .int b] ∧ okP c s b = true ∧ ∀ p H1, H p = none → Same H H1 → H1 p = some (.lst ((cellsR c s b).map V.int)) → Q (.ref p) H1) ∨ (PlaceTh K H x false ∧ Refuses C H x E))
section
variable {P : Program} {w : World} {K : PySem.W.Frag} {mg : Str → Option Value} {base : Heap}
theorem ok_need {f C_NoPlace : Addr} {fd : FuncData} (F : Fun K "need_place" "need_place" s_need_place f fd) (D_is_place : Dn P w K mg base CX0 2 "is_place" ["thing"] (spIsPlace K)) (X_NoPlace : Xn P w K mg base 1 C_NoPlace "NoPlace" ["self", "found"] (spX C_NoPlace ["found"])) : FnOk P w K mg base (L2.CX P w) 3 f fd ["thing"] (spNeed K C_NoPlace) := by
  refine F.okX sc_need_place (fun vs H Q E h => ?_) (fun cdv A outer s H vs Q E hr h => ?_)
  · obtain ⟨x, ok, rfl, _⟩ := h
    rfl
  · obtain ⟨x, ok, rfl, hp, q1, q2⟩ := h
    refine ⟨_, (pss_one (ps_if (pt_not (pt_val (pe_cd D_is_place (hr.mono (by decide)) (by rfl) pass0 (pa_cons (pv 0) pa_nil)))) (pss_one (ps_rz X_NoPlace rfl (takes_of rfl rfl rfl rfl) (hr.mono (by decide)) (by rfl) pass0 (pa_cons (pv 0) pa_nil))) pss_nil)), ?_⟩
    walk_at "rd"
    have fin : ∀ B : Bool, ok = B → ∃ c, V.bl B = V.bl c ∧ if c = false then ∀ (d : Addr) (H2 : Hp), H d = none → Same H H2 → H2 d = some (HO.xd ([("found" : Str)].zip [x]).reverse) → E (Value.ref C_NoPlace) (some d) H2 else Q V.non H := fun B e => by
      subst e
      refine ⟨ok, rfl, ite2 (fun c => ?_) (fun c => ?_)⟩
      · exact fun d H2 nd s2 h2 => q2 c d H2 nd s2 h2
      · exact q1 (by cases ok <;> first | rfl | exact absurd rfl c)
    rcases hp with ⟨T, t, nT, e⟩ | ⟨a, xs, rfl, h, hy, e⟩
    · exact ⟨x, T, rfl, t.thg, .inl ⟨nT, fin _ e⟩⟩
    · exact ⟨_, "tuple", rfl, thg_tup h, .inr ⟨a, xs, rfl, h, fun y hm => let ⟨T, t⟩ := hy y hm; ⟨T, t.thg⟩, fin _ e⟩⟩
theorem ok_cellsInX {f C_NoPlace : Addr} {fd : FuncData} (F : Fun K "cells_in" "cells_in" s_cells_in f fd) (z_range : mg "range" = none) (D_need_place : Dn P w K mg base (L2.CX P w) 3 "need_place" ["thing"] (spNeed K C_NoPlace)) (D_last_cell : Dn P w K mg base CX0 1 "last_cell" ["place"] (spLastCell K)) : FnOk P w K mg base (L2.CX P w) 4 f fd ["place"] (spCellsInX K C_NoPlace) := by
  refine F.okX sc_cells_in (fun vs H Q E h => ?_) (fun cdv A outer s H vs Q E hr h => ?_)
  · obtain ⟨x, rfl, _⟩ := h
    rfl
  · obtain ⟨x, rfl, hp⟩ := h
    refine ⟨_, (pss_cons (ps_expr (pe_cdS D_need_place (hr.mono (by decide)) (by rfl) (fun σ => passAt (takes_of rfl rfl rfl rfl) σ) (pa_cons (pv 0) pa_nil)))
      (pss_one (ps_ret (pe_lc (own := [("k", 1)]) (g := gName 1) (tt := tYes) rfl sc_cells_in.nd (pi_rangeL1 (by rfl) z_range (pa_cons (pe_op op_add (pe_op op_sub (pe_cd D_last_cell (hr.mono (by decide)) (by rfl) pass0 (pa_cons (pv 0) pa_nil)) (pe_ix (ix_tupK (K := K)) (pv 0) pe_int (fun _ _ => rfl))) pe_int) pa_nil)) (blkOk_by (own := [("k", 1)]) (N := ["place", "k"]) (sc := defScope s_cells_in) (by decide +kernel)) (fun _ _ _ _ _ => pg_name (i := 1) sc_cells_in.nd rfl (Or.inl rfl)) (fun _ _ _ _ _ => pts_nil) (fun _ _ _ _ _ => (pe_op op_add (pe_ix (ix_tupK (K := K)) (pv 0) pe_int (fun _ _ => rfl)) (pv 1))))))), ?_⟩
    walk_at "rd"
    rcases hp with ⟨a, c, s, b, rfl, hS, ho, q1⟩ | ⟨hp, q2⟩
    case inr => exact ⟨x, false, rfl, hp, fun h => absurd h (by decide), fun _ => q2⟩
    refine ⟨_, true, rfl, by rw [← ho]; exact placeTh_ints hS, fun _ => ?_, fun h => absurd h (by decide)⟩
    have hb := okP_last ho
    refine ⟨a, c, s, b, rfl, hS, ?_⟩
    walk_at "rd"
    refine ⟨_, hS, _, rfl, _, rfl, Cmp.pureR (fun k => .int (c + (k : Int))) (by omega) (fun _ => rfl) ?_ ?_⟩
    · intro i H2 R hi s2 hR
      walk_at "rd"
      refine ⟨_, Same.seqT s2 hS, _, rfl, _, rfl, ?_⟩
      rw [Int.zero_add]
      exact hR H2 (Same.refl H2)
    · intro l H2 nl s2 h2
      refine q1 l H2 nl s2 ?_
      rw [h2]
      unfold cellsR
      rw [List.map_map]
      rfl
end

/-! ### a room -/
def bitI (B : Nat → Bool) (j : Nat) : Int := if B j then 1 else 0
def byteB (B : Nat → Bool) (i : Nat) : Int := bitI B (8 * i) + 2 * bitI B (8 * i + 1) + 4 * bitI B (8 * i + 2) + 8 * bitI B (8 * i + 3) + 16 * bitI B (8 * i + 4) + 32 * bitI B (8 * i + 5) + 64 * bitI B (8 * i + 6) + 128 * bitI B (8 * i + 7)
def numB (B : Nat → Bool) : Nat → Nat → Int
  | _, 0 => 0
  | s, m + 1 => bitI B s + 2 * numB B (s + 1) m
def putB (B : Nat → Bool) (s b : Nat) (n : Int) : Nat → Bool := fun j => if s ≤ j ∧ j < s + b then decide (n / 2 ^ (j - s) % 2 = 1) else B j
def cellsL (B : Nat → Bool) (w : Nat) : List Int := (List.range w).map (byteB B)
theorem bitI_or (B : Nat → Bool) (j : Nat) : bitI B j = 0 ∨ bitI B j = 1 := by
  unfold bitI
  split
  · exact .inr rfl
  · exact .inl rfl
theorem byteB_in (B : Nat → Bool) (i : Nat) : 0 ≤ byteB B i ∧ byteB B i < 256 := by
  have h0 := bitI_or B (8 * i)
  have h1 := bitI_or B (8 * i + 1)
  have h2 := bitI_or B (8 * i + 2)
  have h3 := bitI_or B (8 * i + 3)
  have h4 := bitI_or B (8 * i + 4)
  have h5 := bitI_or B (8 * i + 5)
  have h6 := bitI_or B (8 * i + 6)
  have h7 := bitI_or B (8 * i + 7)
  unfold byteB
  omega
theorem cellsL_len (B : Nat → Bool) (w : Nat) : (cellsL B w).length = w := by
  unfold cellsL
  rw [List.length_map, List.length_range]
theorem cellsL_at {B : Nat → Bool} {w i : Nat} (h : i < w) : (cellsL B w)[i]? = some (byteB B i) := by
  unfold cellsL
  rw [List.getElem?_map, List.getElem?_range h]
  rfl
theorem bitI_congr {B B' : Nat → Bool} {j : Nat} (h : B j = B' j) : bitI B j = bitI B' j := by
  unfold bitI
  rw [h]
theorem byteB_congr {B B' : Nat → Bool} {i : Nat} (h : ∀ k, k < 8 → B (8 * i + k) = B' (8 * i + k)) : byteB B i = byteB B' i := by
  have h0 := h 0 (by decide)
  rw [Nat.add_zero] at h0
  unfold byteB
  rw [bitI_congr h0, bitI_congr (h 1 (by decide)), bitI_congr (h 2 (by decide)), bitI_congr (h 3 (by decide)), bitI_congr (h 4 (by decide)), bitI_congr (h 5 (by decide)), bitI_congr (h 6 (by decide)), bitI_congr (h 7 (by decide))]
theorem numB_byte (B : Nat → Bool) (i m : Nat) : numB B (8 * i) (m + 8) = byteB B i + 256 * numB B (8 * (i + 1)) m := by
  show bitI B (8 * i) + 2 * (bitI B (8 * i + 1) + 2 * (bitI B (8 * i + 2) + 2 * (bitI B (8 * i + 3) + 2 * (bitI B (8 * i + 4) + 2 * (bitI B (8 * i + 5) + 2 * (bitI B (8 * i + 6) + 2 * (bitI B (8 * i + 7) + 2 * numB B (8 * i + 8) m))))))) = _
  unfold byteB
  rw [show 8 * (i + 1) = 8 * i + 8 by omega]
  omega
def valC : List Int → Int
  | [] => 0
  | c :: r => valC r * 256 + c
theorem valC_num (B : Nat → Bool) : ∀ (m i : Nat), valC ((List.range m).map fun k => byteB B (i + k)) = numB B (8 * i) (8 * m)
  | 0, i => rfl
  | m + 1, i => by
    rw [List.range_succ_eq_map, List.map_cons, List.map_map, show 8 * (m + 1) = 8 * m + 8 by omega, numB_byte, ← valC_num B m (i + 1)]
    show valC ((List.range m).map _) * 256 + byteB B (i + 0) = _
    rw [Nat.add_zero, Int.add_comm, Int.mul_comm]
    congr 4
    funext k
    show byteB B (i + (k + 1)) = byteB B (i + 1 + k)
    rw [show i + (k + 1) = i + 1 + k by omega]
theorem bit_put_in {B : Nat → Bool} {s b j : Nat} {n : Int} (h : j < b) : bitI (putB B s b n) (s + j) = n / 2 ^ j % 2 := by
  unfold bitI putB
  rw [if_pos (show s ≤ s + j ∧ s + j < s + b from ⟨by omega, by omega⟩), show s + j - s = j by omega]
  by_cases g : n / 2 ^ j % 2 = 1
  · rw [decide_eq_true g, if_pos rfl, g]
  · rw [decide_eq_false g, if_neg (by decide)]
    omega
theorem byte_put_in {B : Nat → Bool} {c m i : Nat} {n : Int} (h : i < m) : byteB (putB B (8 * c) (8 * m) n) (c + i) = n / 256 ^ i % 256 := by
  have e : ∀ k, k < 8 → bitI (putB B (8 * c) (8 * m) n) (8 * (c + i) + k) = n / 256 ^ i / 2 ^ k % 2 := fun k hk => by
    rw [show 8 * (c + i) + k = 8 * c + (8 * i + k) by omega, bit_put_in (by omega), Int.pow_add, ← Int.ediv_ediv_of_nonneg (Int.le_of_lt (Int.pow_pos (by decide))), Int.pow_mul]
    rfl
  have e0 := e 0 (by decide)
  rw [Nat.add_zero] at e0
  unfold byteB
  rw [e0, e 1 (by decide), e 2 (by decide), e 3 (by decide), e 4 (by decide), e 5 (by decide), e 6 (by decide), e 7 (by decide)]
  generalize n / 256 ^ i = q
  omega
theorem byte_put_out {B : Nat → Bool} {s b i : Nat} {n : Int} (h : 8 * i + 8 ≤ s ∨ s + b ≤ 8 * i) : byteB (putB B s b n) i = byteB B i := byteB_congr fun k hk => by
  unfold putB
  rw [if_neg (by omega)]
def byte8 (b0 b1 b2 b3 b4 b5 b6 b7 : Bool) : Int := (if b0 then 1 else 0) + 2 * (if b1 then 1 else 0) + 4 * (if b2 then 1 else 0) + 8 * (if b3 then 1 else 0) + 16 * (if b4 then 1 else 0) + 32 * (if b5 then 1 else 0) + 64 * (if b6 then 1 else 0) + 128 * (if b7 then 1 else 0)
theorem tag_read : ∀ b0 b1 b2 b3 b4 b5 b6 b7 : Bool,
    Builtin.bitAnd (byte8 b0 b1 b2 b3 b4 b5 b6 b7 / 2 ^ (0 : Int).toNat) 3 = (if b0 then 1 else 0) + 2 * (if b1 then 1 else 0) ∧ Builtin.bitAnd (byte8 b0 b1 b2 b3 b4 b5 b6 b7 / 2 ^ (2 : Int).toNat) 3 = (if b2 then 1 else 0) + 2 * (if b3 then 1 else 0) ∧
    Builtin.bitAnd (byte8 b0 b1 b2 b3 b4 b5 b6 b7 / 2 ^ (4 : Int).toNat) 3 = (if b4 then 1 else 0) + 2 * (if b5 then 1 else 0) ∧ Builtin.bitAnd (byte8 b0 b1 b2 b3 b4 b5 b6 b7 / 2 ^ (6 : Int).toNat) 3 = (if b6 then 1 else 0) + 2 * (if b7 then 1 else 0) := by decide +kernel
def tagW (c s m : Int) : Int := Builtin.bitOr (Builtin.bitXor (Builtin.bitAnd c 255) (Builtin.bitAnd c (3 * 2 ^ s.toNat))) (m * 2 ^ s.toNat)
theorem tag_write : ∀ b0 b1 b2 b3 b4 b5 b6 b7 m0 m1 : Bool,
    tagW (byte8 b0 b1 b2 b3 b4 b5 b6 b7) 0 ((if m0 then 1 else 0) + 2 * (if m1 then 1 else 0)) = byte8 m0 m1 b2 b3 b4 b5 b6 b7 ∧ tagW (byte8 b0 b1 b2 b3 b4 b5 b6 b7) 2 ((if m0 then 1 else 0) + 2 * (if m1 then 1 else 0)) = byte8 b0 b1 m0 m1 b4 b5 b6 b7 ∧
    tagW (byte8 b0 b1 b2 b3 b4 b5 b6 b7) 4 ((if m0 then 1 else 0) + 2 * (if m1 then 1 else 0)) = byte8 b0 b1 b2 b3 m0 m1 b6 b7 ∧ tagW (byte8 b0 b1 b2 b3 b4 b5 b6 b7) 6 ((if m0 then 1 else 0) + 2 * (if m1 then 1 else 0)) = byte8 b0 b1 b2 b3 b4 b5 m0 m1 := by decide +kernel
theorem byteB_8 (B : Nat → Bool) (i : Nat) : byteB B i = byte8 (B (8 * i)) (B (8 * i + 1)) (B (8 * i + 2)) (B (8 * i + 3)) (B (8 * i + 4)) (B (8 * i + 5)) (B (8 * i + 6)) (B (8 * i + 7)) := rfl
theorem tag_num {B : Nat → Bool} {c s : Nat} (h : s < 8) (h2 : s % 2 = 0) : Builtin.bitAnd (byteB B c / 2 ^ ((s : Int)).toNat) 3 = numB B (8 * c + s) 2 := by
  rw [byteB_8]
  obtain ⟨h0, h2', h4, h6⟩ := tag_read (B (8 * c)) (B (8 * c + 1)) (B (8 * c + 2)) (B (8 * c + 3)) (B (8 * c + 4)) (B (8 * c + 5)) (B (8 * c + 6)) (B (8 * c + 7))
  have e : ∀ j, numB B j 2 = (if B j then 1 else 0) + 2 * (if B (j + 1) then 1 else 0) := fun j => by
    show bitI B j + 2 * (bitI B (j + 1) + 2 * 0) = _
    unfold bitI
    omega
  rw [e]
  have hs : s = 0 ∨ s = 2 ∨ s = 4 ∨ s = 6 := by omega
  rcases hs with rfl | rfl | rfl | rfl
  · exact h0
  · exact h2'
  · exact h4
  · exact h6
theorem tag_put {B : Nat → Bool} {c s : Nat} {n : Int} (h : s < 8) (h2 : s % 2 = 0) : tagW (byteB B c) (s : Int) (n % 4) = byteB (putB B (8 * c + s) 2 n) c := by
  have en : n % 4 = (if decide (n / 2 ^ 0 % 2 = 1) then 1 else 0) + 2 * (if decide (n / 2 ^ 1 % 2 = 1) then 1 else 0) := by
    have h1 : n / 2 ^ 0 = n := by
      rw [show (2 : Int) ^ 0 = 1 from rfl, Int.ediv_one]
    rw [h1]
    show n % 4 = (if decide (n % 2 = 1) then 1 else 0) + 2 * (if decide (n / 2 % 2 = 1) then 1 else 0)
    by_cases g1 : n % 2 = 1 <;> by_cases g2 : n / 2 % 2 = 1 <;> simp [g1, g2] <;> omega
  rw [byteB_8, byteB_8, en]
  obtain ⟨h0, h2', h4, h6⟩ := tag_write (B (8 * c)) (B (8 * c + 1)) (B (8 * c + 2)) (B (8 * c + 3)) (B (8 * c + 4)) (B (8 * c + 5)) (B (8 * c + 6)) (B (8 * c + 7)) (decide (n / 2 ^ 0 % 2 = 1)) (decide (n / 2 ^ 1 % 2 = 1))
  have pin : ∀ j, putB B j 2 n j = decide (n / 2 ^ 0 % 2 = 1) := fun j => by
    unfold putB
    rw [if_pos (by omega), Nat.sub_self]
  have pin1 : ∀ j, putB B j 2 n (j + 1) = decide (n / 2 ^ 1 % 2 = 1) := fun j => by
    unfold putB
    rw [if_pos (by omega), show j + 1 - j = 1 by omega]
  have pout : ∀ j k, ¬ (j ≤ k ∧ k < j + 2) → putB B j 2 n k = B k := fun j k hk => by
    unfold putB
    rw [if_neg hk]
  have hs : s = 0 ∨ s = 2 ∨ s = 4 ∨ s = 6 := by omega
  rcases hs with rfl | rfl | rfl | rfl
  · simp only [Nat.add_zero]
    rw [pin (8 * c), pin1 (8 * c), pout _ _ (by omega), pout _ _ (by omega), pout _ _ (by omega), pout _ _ (by omega), pout _ _ (by omega), pout _ _ (by omega)]
    exact h0
  · rw [pin, pin1 (8 * c + 2), pout _ _ (by omega), pout _ _ (by omega), pout _ _ (by omega), pout _ _ (by omega), pout _ _ (by omega), pout _ _ (by omega)]
    exact h2'
  · rw [pin, pin1 (8 * c + 4), pout _ _ (by omega), pout _ _ (by omega), pout _ _ (by omega), pout _ _ (by omega), pout _ _ (by omega), pout _ _ (by omega)]
    exact h4
  · rw [pin, pin1 (8 * c + 6), pout _ _ (by omega), pout _ _ (by omega), pout _ _ (by omega), pout _ _ (by omega), pout _ _ (by omega), pout _ _ (by omega)]
    exact h6
theorem okP_or {c s b w : Nat} (h : okP c s b = true) (l : lastC c s b < (w : Int)) : ((b = 2 ∧ s % 2 = 0) ∨ ∃ m, b = 8 * m ∧ s = 0 ∧ 1 ≤ m ∧ m ≤ 64 ∧ c + m ≤ w) ∧ c < w := by
  have hb := okP_last h
  unfold lastC at l hb
  refine ⟨?_, by omega⟩
  unfold okP at h
  rw [Bool.and_eq_true] at h
  by_cases g : (b : Int) = 2
  · rw [if_pos g] at h
    simp only [Bool.and_eq_true, decide_eq_true_eq] at h
    exact .inl ⟨by omega, by omega⟩
  · rw [if_neg g] at h
    simp only [Bool.and_eq_true, decide_eq_true_eq] at h
    exact .inr ⟨b / 8, by omega, by omega, by omega, by omega, by omega⟩
theorem ixN_nat {n j : Nat} (h : j < n) : ixN n (j : Int) = some j := by
  unfold ixN
  simp [h] <;> omega
/-! ### class Room -/
def RoomAt (C : Addr) (H : Hp) (p d : Addr) (w : Nat) (B : Nat → Bool) : Prop := (∃ dx, H p = some (.ins C dx [("wide", .int (w : Int)), ("filled", .ref d)])) ∧ H d = some (.lst ((cellsL B w).map V.int))
theorem RoomAt.same {C : Addr} {H H' : Hp} {p d : Addr} {w : Nat} {B : Nat → Bool} (k : RoomAt C H p d w B) (s : Same H H') : RoomAt C H' p d w B := let ⟨⟨dx, h⟩, g⟩ := k; ⟨⟨dx, s _ _ h⟩, s _ _ g⟩
theorem RoomAt.ne {C : Addr} {H : Hp} {p d : Addr} {w : Nat} {B : Nat → Bool} (k : RoomAt C H p d w B) : p ≠ d := by
  obtain ⟨⟨dx, h⟩, g⟩ := k
  exact ne_of h g (by intro z; cases z)
theorem rf_wide {x y : V} : List.lookup (Str.ofString "wide") ([(Str.ofString "wide", x), (Str.ofString "filled", y)] : List (Str × V)) = some x := lk0
theorem rf_filled {x y : V} : List.lookup (Str.ofString "filled") ([(Str.ofString "wide", x), (Str.ofString "filled", y)] : List (Str × V)) = some y := lk1 (by decide +kernel) lk0
theorem rf_put {x y : V} : putF "filled" y [("wide", x)] = ([("wide", x), ("filled", y)] : List (Str × V)) := putF1 (by decide +kernel)
theorem rf_need {x y : V} : List.lookup (Str.ofString "need_inside") ([(Str.ofString "wide", x), (Str.ofString "filled", y)] : List (Str × V)) = none := lk1 (by decide +kernel) (lk1 (by decide +kernel) rfl)
theorem rf_taken {x y : V} : List.lookup (Str.ofString "taken") ([(Str.ofString "wide", x), (Str.ofString "filled", y)] : List (Str × V)) = none := lk1 (by decide +kernel) (lk1 (by decide +kernel) rfl)
theorem rf_left {x y : V} : List.lookup (Str.ofString "left") ([(Str.ofString "wide", x), (Str.ofString "filled", y)] : List (Str × V)) = none := lk1 (by decide +kernel) (lk1 (by decide +kernel) rfl)
theorem rf_cells {x y : V} : List.lookup (Str.ofString "cells") ([(Str.ofString "wide", x), (Str.ofString "filled", y)] : List (Str × V)) = none := lk1 (by decide +kernel) (lk1 (by decide +kernel) rfl)
/-- a place, inside of w cells or not -/
def PlaceIn (K : PySem.W.Frag) (H : Hp) (x : V) (w : Nat) (ok : Bool) : Prop := PlaceTh K H x false ∧ ok = false ∨ ∃ (a : Addr) (c s b : Nat), x = .ref a ∧ SqT K H a [.int (c : Int), .int (s : Int), .int (b : Int)] ∧ okP c s b = true ∧ ok = decide (lastC c s b < (w : Int))
def spInside (K : PySem.W.Frag) (C CN : Addr) : Sp := fun vs H Q E => ∃ (p d : Addr) (w : Nat) (B : Nat → Bool) (x : V) (ok : Bool), vs = [.ref p, x] ∧ RoomAt C H p d w B ∧ PlaceIn K H x w ok ∧ (ok = true → Q .non H) ∧ (ok = false → Refuses CN H x E)
def spTaken (K : PySem.W.Frag) (C CN : Addr) : Sp := fun vs H Q E => ∃ (p d : Addr) (w : Nat) (B : Nat → Bool) (x : V), vs = [.ref p, x] ∧ RoomAt C H p d w B ∧ w ≤ 8192 ∧
  ((∃ (a : Addr) (c s b : Nat), x = .ref a ∧ SqT K H a [.int (c : Int), .int (s : Int), .int (b : Int)] ∧ okP c s b = true ∧ lastC c s b < (w : Int) ∧ ∀ H1, Same H H1 → Q (.int (numB B (8 * c + s) b)) H1) ∨ (PlaceIn K H x w false ∧ Refuses CN H x E))
def spLeft (K : PySem.W.Frag) (C CN : Addr) : Sp := fun vs H Q E => ∃ (p d : Addr) (w : Nat) (B : Nat → Bool) (x : V) (n : Int), vs = [.ref p, x, .int n] ∧ RoomAt C H p d w B ∧ w ≤ 8192 ∧
  ((∃ (a : Addr) (c s b : Nat), x = .ref a ∧ SqT K H a [.int (c : Int), .int (s : Int), .int (b : Int)] ∧ okP c s b = true ∧ lastC c s b < (w : Int) ∧ ∀ H1, Off d H H1 → RoomAt C H1 p d w (putB B (8 * c + s) b n) → Q .non H1) ∨ (PlaceIn K H x w false ∧ Refuses CN H x E))
def spCellsR (C : Addr) : Sp := fun vs H Q E => ∃ (p d : Addr) (w : Nat) (B : Nat → Bool), vs = [.ref p] ∧ RoomAt C H p d w B ∧ ∀ l H1, H l = none → Same H H1 → H1 l = some (.lst ((cellsL B w).map V.int)) → Q (.ref l) H1
def spCellsOf : Sp := fun vs H Q _ => ∃ (n : Int) (k : Nat), vs = [.int n, .int (k : Int)] ∧ k ≤ 64 ∧ ∀ p H1, H p = none → Same H H1 → H1 p = some (.lst (((List.range k).map fun i => n / 256 ^ i % 256).map V.int)) → Q (.ref p) H1
def spWordOf (K : PySem.W.Frag) : Sp := fun vs H Q _ => ∃ (a : Addr) (cs : List Int), vs = [.ref a] ∧ SqL K H a (cs.map V.int) ∧ (∀ c ∈ cs, 0 ≤ c ∧ c < 256) ∧ cs.length ≤ 64 ∧ Q (.int (valC cs)) H
def spRInit (K : PySem.W.Frag) (C CR : Addr) : Sp := fun vs H Q E => ∃ (p dx : Addr) (x : V) (T : String), vs = [.ref p, x] ∧ Th K H x T ∧ H p = some (.ins C dx []) ∧
  (∀ w : Nat, x = .int (w : Int) → 1 ≤ w → w ≤ 8192 → ∀ d H1, Off p H H1 → H d = none → RoomAt C H1 p d w (fun _ => false) → Q .non H1) ∧ (isIn x 1 8192 = false → Refuses CR H x E)
section
variable {P : Program} {w : World} {K : PySem.W.Frag} {mg : Str → Option Value} {base : Heap}
theorem ok_inside {f C_Room C_NoPlace : Addr} {fd : FuncData} (F : Fun K "need_inside" "Room.need_inside" s_Room_need_inside f fd) (K_Room : Cls K C_Room) (A_Room_wide : NoAttr K C_Room "wide") (D_need_place : Dn P w K mg base (L2.CX P w) 3 "need_place" ["thing"] (spNeed K C_NoPlace)) (D_last_cell : Dn P w K mg base CX0 1 "last_cell" ["place"] (spLastCell K)) (X_NoPlace : Xn P w K mg base 1 C_NoPlace "NoPlace" ["self", "found"] (spX C_NoPlace ["found"])) : FnOk P w K mg base (L2.CX P w) 4 f fd ["self", "place"] (spInside K C_Room C_NoPlace) := by
  refine F.okX sc_Room_need_inside (fun vs H Q E h => ?_) (fun cdv A outer s H vs Q E hr h => ?_)
  · obtain ⟨p, d, w, B, x, ok, rfl, _⟩ := h
    rfl
  · obtain ⟨p, d, w, B, x, ok, rfl, hR, hp, q1, q2⟩ := h
    refine ⟨_, (pss_cons (ps_expr (pe_cdS D_need_place (hr.mono (by decide)) (by rfl) (fun σ => passAt (takes_of rfl rfl rfl rfl) σ) (pa_cons (pv 1) pa_nil)))
      (pss_one (ps_if (pt_cmpR op_ge (pe_cd D_last_cell (hr.mono (by decide)) (by rfl) pass0 (pa_cons (pv 1) pa_nil)) (pe_fldK (pv 0) rfl (K := K)) (nomark _)) (pss_one (ps_rz X_NoPlace rfl (takes_of rfl rfl rfl rfl) (hr.mono (by decide)) (by rfl) pass0 (pa_cons (pv 1) pa_nil))) pss_nil))), ?_⟩
    walk_at "rd"
    obtain ⟨⟨dx, hp1⟩, hd⟩ := hR
    rcases hp with ⟨hp, e⟩ | ⟨a, c, s, b, rfl, h, ho, e⟩
    · exact ⟨x, false, rfl, hp, fun h => absurd h (by decide), fun _ => q2 e⟩
    · refine ⟨_, _, rfl, placeTh_ints h, fun _ => ?_, fun h => by rw [ho] at h; cases h⟩
      refine ⟨a, _, _, _, rfl, h, _, _, _, hp1, K_Room, A_Room_wide, _, rf_wide, _, rfl, _, rfl, ite2 (fun g => ?_) (fun g => ?_)⟩
      · have e2 : ok = false := by rw [e, decide_eq_false (by omega)]
        exact fun d H2 nd s2 h2 => q2 e2 d H2 nd s2 h2
      · exact q1 (by rw [e, decide_eq_true (by omega)])
theorem ok_taken {f C_Room C_NoPlace : Addr} {fd : FuncData} (F : Fun K "taken" "Room.taken" s_Room_taken f fd) (K_Room : Cls K C_Room) (A_Room_filled : NoAttr K C_Room "filled") (c_TAG_BITS : ∃ t, mg "TAG_BITS" = some (.int 2 t)) (c_CELL_BITS : ∃ t, mg "CELL_BITS" = some (.int 8 t)) (N_Room_need_inside : Nn P w K mg base (L2.CX P w) 4 C_Room "need_inside" ["self", "place"] (spInside K C_Room C_NoPlace)) (D_word_of : Dn P w K mg base CX0 1 "word_of" ["cells"] (spWordOf K)) : FnOk P w K mg base (L2.CX P w) 5 f fd ["self", "place"] (spTaken K C_Room C_NoPlace) := by
  refine F.okX sc_Room_taken (fun vs H Q E h => ?_) (fun cdv A outer s H vs Q E hr h => ?_)
  · obtain ⟨p, d, w, B, x, rfl, _⟩ := h
    rfl
  · obtain ⟨p, d, w, B, x, rfl, hR, hw, hp⟩ := h
    refine ⟨_, (pss_cons (ps_expr (pe_mdS (pv 0) N_Room_need_inside (hr.mono (by decide)) (fun σ => passAt (takes_of rfl rfl rfl rfl) σ) (pa_cons (pv 1) pa_nil)))
      (pss_cons (ps_asg (pv 1) (pg_tup rfl (pgs_cons (pg_name (i := 2) sc_Room_taken.nd rfl (by first | exact Or.inl rfl | exact Or.inr rfl)) (pgs_cons (pg_name (i := 3) sc_Room_taken.nd rfl (by first | exact Or.inl rfl | exact Or.inr rfl)) (pgs_cons (pg_name (i := 4) sc_Room_taken.nd rfl (by first | exact Or.inl rfl | exact Or.inr rfl)) pgs_nil)))))
      (pss_cons (ps_if (pt_cmpR op_eq (pv 4) (pe_gi (by rfl) c_TAG_BITS) (nomark _)) (pss_one (ps_ret (pe_op op_and (pe_op op_shr (pe_ix (ix_listK (K := K)) (pe_fldK (pv 0) rfl (K := K)) (pv 2) (fun _ _ => rfl)) (pv 3)) pe_int))) pss_nil)
      (pss_one (ps_ret (pe_cd D_word_of (hr.mono (by decide)) (by rfl) pass0 (pa_cons (pe_slice (sl_listK (K := K)) (pe_fldK (pv 0) rfl (K := K)) (po_some (pv 2)) (po_some (pe_op op_add (pv 2) (pe_op op_fdivW (pv 4) (pe_gi (by rfl) c_CELL_BITS))))) pa_nil))))))), ?_⟩
    walk_at "rd"
    obtain ⟨⟨dx, hp1⟩, hd⟩ := id hR
    rcases hp with ⟨a, c, s, b, rfl, hS, ho, lw, q⟩ | ⟨hp, q2⟩
    case inr => exact ⟨_, _, hp1, rf_need, p, d, w, B, x, false, rfl, hR, hp, fun h => absurd h (by decide), fun _ => q2⟩
    refine ⟨_, _, hp1, rf_need, p, d, w, B, .ref a, true, rfl, hR, .inr ⟨a, c, s, b, rfl, hS, ho, (decide_eq_true lw).symm⟩, fun _ => ?_, fun h => absurd h (by decide)⟩
    have hb := okP_last ho
    obtain ⟨hcase, hcw⟩ := okP_or ho lw
    refine ⟨a, rfl, _, hS, rfl, _, _, rfl, _, _, rfl, _, _, rfl, rfl, rfl, ?_⟩
    rcases hcase with ⟨hb2, hs2⟩ | ⟨m, hm, hs0, hm1, hm2, hmw⟩
    · subst hb2
      refine iteP rfl ⟨_, _, _, hp1, K_Room, A_Room_filled, _, rf_filled, d, rfl, _, _, rfl, seq_of hd, _, atI_nat (at_int (cellsL_at hcw)), _, rfl, _, rfl, by omega, ?_⟩
      rw [tag_num (by omega) hs2]
      exact q H (Same.refl H)
    · subst hm
      subst hs0
      refine iteN (fun e => ?_) ⟨_, _, _, hp1, K_Room, A_Room_filled, _, rf_filled, _, rfl, _, rfl, ⟨by decide, by decide⟩, _, rfl, d, rfl, _, seq_of hd, New.intro fun l H1 nl s1 h1 => ?_⟩
      · have := V.int.inj e
        omega
      · rw [show ((c : Int) + ((8 * m : Nat) : Int) / 8) = ((c + m : Nat) : Int) by omega, cut_mid, ← List.map_drop, ← List.map_take] at h1
        have ec : ((cellsL B w).drop c).take (c + m - c) = (List.range m).map fun k => byteB B (c + k) := by
          apply List.ext_getElem?
          intro i
          rw [List.getElem?_take, List.getElem?_drop]
          by_cases hi : i < m
          · rw [if_pos (by omega), cellsL_at (by omega), List.getElem?_map, List.getElem?_range hi]
            rfl
          · rw [if_neg (by omega), List.getElem?_eq_none (by rw [List.length_map, List.length_range]; omega)]
        rw [ec] at h1
        refine ⟨l, _, rfl, seq_of h1, fun y hy => ?_, by rw [List.length_map, List.length_range]; omega, ?_⟩
        · obtain ⟨k, _, rfl⟩ := List.mem_map.mp hy
          exact byteB_in B _
        · rw [valC_num]
          exact q H1 s1
theorem ok_left {f C_Room C_NoPlace : Addr} {fd : FuncData} (F : Fun K "left" "Room.left" s_Room_left f fd) (K_Room : Cls K C_Room) (A_Room_filled : NoAttr K C_Room "filled") (c_TAG_BITS : ∃ t, mg "TAG_BITS" = some (.int 2 t)) (c_CELL_BITS : ∃ t, mg "CELL_BITS" = some (.int 8 t)) (N_Room_need_inside : Nn P w K mg base (L2.CX P w) 4 C_Room "need_inside" ["self", "place"] (spInside K C_Room C_NoPlace)) (D_cells_of : Dn P w K mg base CX0 1 "cells_of" ["word", "width"] spCellsOf) : FnOk P w K mg base (L2.CX P w) 5 f fd ["self", "place", "number"] (spLeft K C_Room C_NoPlace) := by
  refine F.okX sc_Room_left (fun vs H Q E h => ?_) (fun cdv A outer s H vs Q E hr h => ?_)
  · obtain ⟨p, d, w, B, x, n, rfl, _⟩ := h
    rfl
  · obtain ⟨p, d, w, B, x, n, rfl, hR, hw, hp⟩ := h
    refine ⟨_, (pss_cons (ps_expr (pe_mdS (pv 0) N_Room_need_inside (hr.mono (by decide)) (fun σ => passAt (takes_of rfl rfl rfl rfl) σ) (pa_cons (pv 1) pa_nil)))
      (pss_cons (ps_asg (pv 1) (pg_tup rfl (pgs_cons (pg_name (i := 3) sc_Room_left.nd rfl (by first | exact Or.inl rfl | exact Or.inr rfl)) (pgs_cons (pg_name (i := 4) sc_Room_left.nd rfl (by first | exact Or.inl rfl | exact Or.inr rfl)) (pgs_cons (pg_name (i := 5) sc_Room_left.nd rfl (by first | exact Or.inl rfl | exact Or.inr rfl)) pgs_nil)))))
      (pss_one (ps_if (pt_cmpR op_eq (pv 5) (pe_gi (by rfl) c_TAG_BITS) (nomark _)) (pss_cons (ps_set (i := 6) sc_Room_left.nd rfl (by first | exact Or.inl rfl | exact Or.inr rfl) (pe_op op_xor (pe_op op_and (pe_ix (ix_listK (K := K)) (pe_fldK (pv 0) rfl (K := K)) (pv 3) (fun _ _ => rfl)) pe_int) (pe_op op_and (pe_ix (ix_listK (K := K)) (pe_fldK (pv 0) rfl (K := K)) (pv 3) (fun _ _ => rfl)) (pe_op op_shlW pe_int (pv 4)))))
      (pss_one (ps_asg (pe_op op_or (pv 6) (pe_op op_shlW (pe_op op_and (pv 2) pe_int) (pv 4))) (pg_sub (pe_fldK (pv 0) rfl (K := K)) (pv 3) set_list)))) (pss_one (ps_asg (pe_cd D_cells_of (hr.mono (by decide)) (by rfl) pass0 (pa_cons (pv 2) (pa_cons (pe_op op_fdivW (pv 5) (pe_gi (by rfl) c_CELL_BITS)) pa_nil))) (pg_slset (pe_fldK (pv 0) rfl (K := K)) (pv 3) (pe_op op_add (pv 3) (pe_op op_fdivW (pv 5) (pe_gi (by rfl) c_CELL_BITS)))))))))), ?_⟩
    walk_at "rd"
    obtain ⟨⟨dx, hp1⟩, hd⟩ := id hR
    have npd := hR.ne
    rcases hp with ⟨a, c, s, b, rfl, hS, ho, lw, q⟩ | ⟨hp, q2⟩
    case inr => exact ⟨_, _, hp1, rf_need, p, d, w, B, x, false, rfl, hR, hp, fun h => absurd h (by decide), fun _ => q2⟩
    refine ⟨_, _, hp1, rf_need, p, d, w, B, .ref a, true, rfl, hR, .inr ⟨a, c, s, b, rfl, hS, ho, (decide_eq_true lw).symm⟩, fun _ => ?_, fun h => absurd h (by decide)⟩
    have hb := okP_last ho
    obtain ⟨hcase, hcw⟩ := okP_or ho lw
    refine ⟨a, rfl, _, hS, rfl, _, _, rfl, _, _, rfl, _, _, rfl, rfl, rfl, ?_⟩
    rcases hcase with ⟨hb2, hs2⟩ | ⟨m, hm, hs0, hm1, hm2, hmw⟩
    · subst hb2
      have hat := atI_nat (at_int (cellsL_at (B := B) hcw))
      have cs : ∀ x : Int, 0 ≤ x → x < 4 → CShl x (s : Int) := fun x x0 x1 => by
        have hx : x = 0 ∨ x = 1 ∨ x = 2 ∨ x = 3 := by omega
        have hs : s = 0 ∨ s = 2 ∨ s = 4 ∨ s = 6 := by omega
        unfold CShl
        rcases hx with rfl | rfl | rfl | rfl <;> rcases hs with rfl | rfl | rfl | rfl <;> decide
      have c1 : CShl 3 (s : Int) := cs 3 (by decide) (by decide)
      have c2 : CShl (Builtin.bitAnd n 3) (s : Int) := by
        rw [bitAnd_m2]
        exact cs _ (by omega) (by omega)
      refine iteP rfl ⟨_, _, _, hp1, K_Room, A_Room_filled, _, rf_filled, d, rfl, _, _, rfl, seq_of hd, _, hat, _, rfl, _, _, _, hp1, K_Room, A_Room_filled, _, rf_filled, d, rfl, _, _, rfl, seq_of hd, _, hat, _, rfl, c1, _, rfl, _, rfl, c2,
        _, _, _, hp1, K_Room, A_Room_filled, _, rf_filled, d, rfl, _, _, rfl, hd, c, ?_, Upd.intro fun H1 o1 h1 => ?_⟩
      · rw [List.length_map, cellsL_len]
        exact ixN_nat hcw
      · refine q H1 o1 ⟨⟨dx, o1 _ _ npd hp1⟩, ?_⟩
        rw [h1, bitAnd_m2 n]
        show some (HO.lst (((cellsL B w).map V.int).set c (V.int (tagW (byteB B c) (s : Int) (n % 4))))) = _
        rw [tag_put (by omega) hs2]
        congr 2
        apply List.ext_getElem?
        intro i
        rw [List.getElem?_set, List.length_map, cellsL_len]
        by_cases hi : c = i
        · subst hi
          rw [if_pos rfl, if_pos hcw, at_int (cellsL_at hcw)]
        · rw [if_neg hi, List.getElem?_map, List.getElem?_map]
          by_cases hiw : i < w
          · rw [cellsL_at hiw, cellsL_at hiw, byte_put_out (by omega)]
          · rw [List.getElem?_eq_none (by rw [cellsL_len]; omega), List.getElem?_eq_none (by rw [cellsL_len]; omega)]
    · subst hm
      subst hs0
      refine iteN (fun e => ?_) ⟨_, rfl, ⟨by decide, by decide⟩, n, m, by rw [show (((8 * m : Nat) : Int) / 8) = (m : Int) by omega], hm2, fun l H1 nl s1 h1 => ?_⟩
      · have := V.int.inj e
        omega
      · have hp2 := s1 _ _ hp1
        have hd2 := s1 _ _ hd
        have ndl : d ≠ l := fun e => by
          subst e
          rw [hd] at nl
          cases nl
        refine ⟨_, _, _, hp2, K_Room, A_Room_filled, _, rf_filled, _, rfl, ⟨by decide, by decide⟩, _, rfl, d, rfl, l, rfl, _, _, _, rfl, hd2, h1, ndl, by omega, by omega, by rw [List.length_map, cellsL_len]; omega, sz100 (by simp only [List.length_map, List.length_range, cellsL_len]; omega), Upd.intro fun H2 o2 h2 => ?_⟩
        refine q H2 ((Off.of s1).trans o2) ⟨⟨dx, o2 _ _ npd hp2⟩, ?_⟩
        rw [h2, show ((c : Int) + ((8 * m : Nat) : Int) / 8).toNat = c + m by omega, Int.toNat_natCast]
        congr 2
        rw [← List.map_take, ← List.map_drop, ← List.map_append, ← List.map_append]
        congr 1
        apply List.ext_getElem?
        intro i
        have lt : ((cellsL B w).take c).length = c := by
          rw [List.length_take, cellsL_len]
          omega
        rw [List.append_assoc, List.getElem?_append, lt]
        by_cases hi : i < c
        · rw [if_pos hi, List.getElem?_take, if_pos hi, cellsL_at (by omega), cellsL_at (by omega), byte_put_out (by omega)]
        · rw [if_neg hi, List.getElem?_append, List.length_map, List.length_range]
          by_cases hi2 : i - c < m
          · rw [if_pos hi2, List.getElem?_map, List.getElem?_range hi2, cellsL_at (by omega)]
            have e := byte_put_in (B := B) (c := c) (n := n) hi2
            rw [show c + (i - c) = i by omega] at e
            rw [Nat.add_zero, e]
            rfl
          · rw [if_neg hi2, List.getElem?_drop, show c + m + (i - c - m) = i by omega]
            by_cases hiw : i < w
            · rw [cellsL_at hiw, cellsL_at hiw, byte_put_out (by omega)]
            · rw [List.getElem?_eq_none (by rw [cellsL_len]; omega), List.getElem?_eq_none (by rw [cellsL_len]; omega)]
theorem ok_rcells {f C_Room : Addr} {fd : FuncData} (F : Fun K "cells" "Room.cells" s_Room_cells f fd) (z_list : mg "list" = none) (K_Room : Cls K C_Room) (A_Room_filled : NoAttr K C_Room "filled") : FnOk P w K mg base CX0 1 f fd ["self"] (spCellsR C_Room) := by
  refine F.ok sc_Room_cells (fun vs H Q E h => ?_) (fun cdv A outer s H vs Q E hr h => ?_)
  · obtain ⟨p, d, w, B, rfl, _⟩ := h
    rfl
  · obtain ⟨p, d, w, B, rfl, ⟨⟨dx, hp⟩, hd⟩, q⟩ := h
    refine ⟨_, (pss_one (ps_ret (pe_callTy (call_listR (K := K)) (by rfl) z_list (by decide +kernel) (pa_cons (pe_fldK (pv 0) rfl (K := K)) pa_nil)))), ?_⟩
    walk_at "rd"
    exact ⟨_, _, _, hp, K_Room, A_Room_filled, _, rf_filled, d, rfl, _, .inl (seq_of hd), New.intro fun l H1 nl s1 h1 => q l H1 nl s1 h1⟩
theorem ok_rinit {f C_Room C_NoRoom : Addr} {fd : FuncData} (F : Fun K "__init__" "Room.__init__" s_Room_init f fd) (K_Room : Cls K C_Room) (A_Room_wide : NoAttr K C_Room "wide") (A_Room_filled : NoAttr K C_Room "filled") (c_WIDEST_ROOM : ∃ t, mg "WIDEST_ROOM" = some (.int 8192 t)) (D_is_within : Dn P w K mg base CX0 2 "is_within" ["thing", "low", "high"] (spIsWithin K)) (X_NoRoom : Xn P w K mg base 1 C_NoRoom "NoRoom" ["self", "found"] (spX C_NoRoom ["found"])) : FnOk P w K mg base (L2.CX P w) 3 f fd ["self", "wide"] (spRInit K C_Room C_NoRoom) := by
  refine F.okX sc_Room_init (fun vs H Q E h => ?_) (fun cdv A outer s H vs Q E hr h => ?_)
  · obtain ⟨p, dx, x, T, rfl, _⟩ := h
    rfl
  · obtain ⟨p, dx, x, T, rfl, t, hp, q1, q2⟩ := h
    refine ⟨_, (pss_cons (ps_if (pt_not (pt_val (pe_cd D_is_within (hr.mono (by decide)) (by rfl) pass0 (pa_cons (pv 1) (pa_cons pe_int (pa_cons (pe_gi (by rfl) c_WIDEST_ROOM) pa_nil)))))) (pss_one (ps_rz X_NoRoom rfl (takes_of rfl rfl rfl rfl) (hr.mono (by decide)) (by rfl) pass0 (pa_cons (pv 1) pa_nil))) pss_nil)
      (pss_cons (ps_fldK (pv 0) (pv 1) rfl (K := K))
      (pss_one (ps_fldK (pv 0) (pe_op op_rep (pe_lst (pa_cons pe_int pa_nil)) (pv 1)) rfl (K := K))))), ?_⟩
    walk_at "rd"
    refine ⟨x, T, 1, 8192, rfl, t.thg, _, rfl, ite2 (fun c => ?_) (fun c => ?_)⟩
    · exact fun d H2 nd s2 h2 => q2 c d H2 nd s2 h2
    · obtain ⟨w, rfl, hw1, hw2⟩ : ∃ w : Nat, x = .int (w : Int) ∧ 1 ≤ w ∧ w ≤ 8192 := by
        cases x with
        | int i =>
          have h : (decide (1 ≤ i) && decide (i ≤ 8192)) = true := by
            cases g : (decide (1 ≤ i) && decide (i ≤ 8192)) with
            | true => rfl
            | false => exact absurd g c
          rw [Bool.and_eq_true, decide_eq_true_eq, decide_eq_true_eq] at h
          exact ⟨i.toNat, by rw [Int.toNat_of_nonneg (by omega)], by omega, by omega⟩
        | _ => exact absurd rfl c
      refine ⟨_, _, _, hp, K_Room, A_Room_wide, by decide, Upd.intro fun H1 o1 h1 => ⟨by decide, New.intro fun l1 H2 n2 s2 h2 => ⟨_, rfl, _, h2, by omega, by omega, sz100 (by rw [List.length_singleton]; omega), New.intro fun d H3 nd s3 h3 => ?_⟩⟩⟩
      have h1' : H1 p = some (.ins C_Room dx [("wide", .int (w : Int))]) := h1
      have h13 := s3 _ _ (s2 _ _ h1')
      refine ⟨_, _, _, h13, K_Room, A_Room_filled, show (1 : Nat) < 1000 by decide, Upd.intro fun H4 o4 h4 => ?_⟩
      rw [rf_put] at h4
      have ndp : d ≠ p := fun e => by
        subst e
        rw [s2 _ _ h1'] at nd
        cases nd
      refine q1 w rfl hw1 hw2 d H4 (o1.trans ((Off.of (s2.trans s3)).trans o4)) (o1.none hp (s2.free nd) ⟨_, h1⟩) ⟨⟨dx, h4⟩, ?_⟩
      rw [o4 _ _ ndp h3, Int.toNat_natCast]
      congr 2
      rw [List.flatten_replicate_singleton]
      unfold cellsL
      rw [List.map_map]
      symm
      show (List.range w).map (fun _ => V.int 0) = _
      rw [List.map_const', List.length_range]
end

/-! ### cells_of, word_of -/
def cellsI (n : Int) (k : Nat) : List Int := (List.range k).map fun i => n / 256 ^ i % 256
theorem cellsI_succ (n : Int) (k : Nat) : cellsI n (k + 1) = cellsI n k ++ [n / 256 ^ k % 256] := by
  unfold cellsI
  rw [List.range_succ, List.map_append]
  rfl
theorem cellsI_len (n : Int) (k : Nat) : (cellsI n k).length = k := by
  unfold cellsI
  rw [List.length_map, List.length_range]
theorem pow_pos256 (k : Nat) : (0 : Int) < 256 ^ k := Int.pow_pos (by decide)
theorem pow_le256 {i j : Nat} (h : i ≤ j) : (256 : Int) ^ i ≤ 256 ^ j := by
  rcases Nat.lt_or_eq_of_le h with h | h
  · exact Int.le_of_lt (Int.pow_lt_pow_of_lt (by decide) h)
  · rw [h]
    exact Int.le_refl _
theorem valC_nonneg : ∀ {l : List Int}, (∀ c ∈ l, 0 ≤ c) → 0 ≤ valC l
  | [], _ => by decide
  | a :: r, h => by
    have h1 := valC_nonneg (l := r) fun c hc => h c (List.mem_cons_of_mem _ hc)
    have h2 := h a List.mem_cons_self
    show 0 ≤ valC r * 256 + a
    omega
theorem valC_lt : ∀ {l : List Int}, (∀ c ∈ l, 0 ≤ c ∧ c < 256) → valC l < 256 ^ l.length
  | [], _ => by decide
  | a :: r, h => by
    have h1 := valC_lt (l := r) fun c hc => h c (List.mem_cons_of_mem _ hc)
    have h2 := h a List.mem_cons_self
    show valC r * 256 + a < 256 ^ (r.length + 1)
    rw [Int.pow_succ]
    omega
theorem shl_or {x c : Int} (hx : 0 ≤ x) (h0 : 0 ≤ c) (h1 : c < 256) : Builtin.bitOr (x * 2 ^ (8 : Int).toNat) c = x * 256 + c := or_low (k := 8) hx h0 h1
section
variable {P : Program} {w : World} {K : PySem.W.Frag} {mg : Str → Option Value} {base : Heap}
theorem ok_cellsOf {f : Addr} {fd : FuncData} (F : Fun K "cells_of" "cells_of" s_cells_of f fd) (z_range : mg "range" = none) (z_divmod : mg "divmod" = none) : FnOk P w K mg base CX0 1 f fd ["word", "width"] spCellsOf := by
  refine F.ok sc_cells_of (fun vs H Q E h => ?_) (fun cdv A outer s H vs Q E hr h => ?_)
  · obtain ⟨n, k, rfl, _⟩ := h
    rfl
  · obtain ⟨n, k, rfl, hk, q⟩ := h
    refine ⟨_, (pss_cons (ps_set (i := 2) sc_cells_of.nd rfl (by first | exact Or.inl rfl | exact Or.inr rfl) (pe_lst pa_nil))
      (pss_cons (ps_for PassesOwn.never rfl (pi_rangeL1 (by rfl) z_range (pa_cons (pv 1) pa_nil)) (pg_name (i := 3) sc_cells_of.nd rfl (by first | exact Or.inl rfl | exact Or.inr rfl)) (pss_cons (ps_asg (pe_callB call_divmodR (by rfl) z_divmod (by decide +kernel) (pa_cons (pv 0) (pa_cons pe_int pa_nil))) (pg_tup rfl (pgs_cons (pg_name (i := 0) sc_cells_of.nd rfl (by first | exact Or.inl rfl | exact Or.inr rfl)) (pgs_cons (pg_name (i := 4) sc_cells_of.nd rfl (by first | exact Or.inl rfl | exact Or.inr rfl)) pgs_nil))))
      (pss_one (ps_expr (pe_bmK (K := K) PySem.F.plainAttrs_list PySem.F.slot_list_append PySem.F.type_list_append mt_append (pv 2) (pa_cons (pv 4) pa_nil))))))
      (pss_one (ps_ret (pv 2))))), ?_⟩
    walk_at "rd"
    refine ⟨Nat.zero_le _, New.intro fun p H0 np s0 h0 => Loop.range (fun i σ H1 => ∃ y z, σ = [some (.int (n / 256 ^ i)), some (.int (k : Int)), some (.ref p), y, z] ∧ Same H H1 ∧ H1 p = some (.lst ((cellsI n i).map V.int)))
      ⟨none, none, ?_, s0, h0⟩ ?_ ?_⟩
    · rw [show n / 256 ^ 0 = n from Int.ediv_one n]
    · rintro i σ H1 hi ⟨y, z, rfl, s1, h1⟩
      walk_at "rd"
      refine ⟨⟨by decide, by decide⟩, New.intro fun t H2 nt s2 h2 => ⟨_, seqT_of h2, rfl, _, _, rfl, _, _, rfl, rfl, tyv_list (seq_of (s2 _ _ h1)), _, s2 _ _ h1, small1000 (by rw [List.length_map, cellsI_len]; omega), Upd.intro fun H3 o3 h3 => ⟨?_, ?_, ?_⟩⟩⟩
      · rw [Int.pow_succ, ← Int.ediv_ediv_of_nonneg (Int.le_of_lt (pow_pos256 i))]
      · exact Same.off (s1.trans s2) np o3
      · rw [h3, cellsI_succ, List.map_append]
        rfl
    · rintro σ H1 ⟨y, z, rfl, s1, h1⟩
      walk_at "rd"
      exact q p H1 np s1 h1
theorem ok_wordOf {f : Addr} {fd : FuncData} (F : Fun K "word_of" "word_of" s_word_of f fd) (z_reversed : mg "reversed" = none) : FnOk P w K mg base CX0 1 f fd ["cells"] (spWordOf K) := by
  refine F.ok sc_word_of (fun vs H Q E h => ?_) (fun cdv A outer s H vs Q E hr h => ?_)
  · obtain ⟨a, cs, rfl, _⟩ := h
    rfl
  · obtain ⟨a, cs, rfl, hS, hc, hl, q⟩ := h
    refine ⟨_, (pss_cons (ps_set (i := 1) sc_word_of.nd rfl (by first | exact Or.inl rfl | exact Or.inr rfl) pe_int)
      (pss_cons (ps_for PassesOwn.never rfl (pi_reversedK (by rfl) z_reversed (pa_cons (pv 0) pa_nil) (K := K)) (pg_name (i := 2) sc_word_of.nd rfl (by first | exact Or.inl rfl | exact Or.inr rfl)) (pss_one (ps_set (i := 1) sc_word_of.nd rfl (by first | exact Or.inl rfl | exact Or.inr rfl) (pe_op op_or (pe_op op_shlW (pv 1) pe_int) (pv 2)))))
      (pss_one (ps_ret (pv 1))))), ?_⟩
    walk_at "rd"
    refine ⟨_, hS, Loop.rev rfl (fun i σ H1 => ∃ y, H1 = H ∧ σ = [some (.ref a), some (.int (valC (cs.drop (cs.length - i)))), y]) ⟨none, rfl, ?_⟩ ?_ ?_ ?_⟩
    · rw [Nat.sub_zero, List.drop_length]
      rfl
    · rintro i σ H1 _ ⟨y, rfl, rfl⟩
      exact hS
    · rintro i x σ H1 hx hi ⟨y, rfl, rfl⟩
      walk_at "rd"
      rw [List.length_map] at hx hi
      obtain ⟨z, hz, rfl⟩ := int_at hx
      have hm := hc z (List.mem_of_getElem? hz)
      have hv := valC_nonneg (l := cs.drop (cs.length - i)) fun c h => (hc c (List.mem_of_mem_drop h)).1
      have hu := valC_lt (l := cs.drop (cs.length - i)) fun c h => hc c (List.mem_of_mem_drop h)
      have hp : (256 : Int) ^ (cs.drop (cs.length - i)).length ≤ 256 ^ 64 := pow_le256 (by rw [List.length_drop]; omega)
      refine ⟨shl_ok (j := 8) (n := 600) (by omega) (by decide), _, rfl, ?_⟩
      rw [shl_or hv hm.1 hm.2, show cs.length - (i + 1) = cs.length - 1 - i by omega, drop_at hz, show cs.length - 1 - i + 1 = cs.length - i by omega]
      rfl
    · rintro σ H1 ⟨y, rfl, rfl⟩
      walk_at "rd"
      rw [List.length_map, Nat.sub_self]
      exact q
end

/-! ### drawn places -/
theorem DSt.same {H H' : Hp} {a : Addr} (d : DSt H a) (s : Same H H') : DSt H' a := let ⟨r, n, c, h⟩ := d; ⟨r, n, c, s _ _ h⟩
theorem DSt.ne {H : Hp} {a p : Addr} (d : DSt H a) (h : H p = none) : a ≠ p := fun e => by
  subst e
  obtain ⟨r, n, c, d⟩ := d
  rw [h] at d
  cases d
theorem noneD {t p : Addr} {H H' : Hp} (o : Off t H H') (d : DSt H t) (d' : DSt H' t) (h : H' p = none) : H p = none := by
  obtain ⟨r, n, c, d⟩ := d
  obtain ⟨r', n', c', d'⟩ := d'
  exact o.none d h ⟨_, d'⟩
theorem pickI {xs : List Int} {v : Int} (h0 : 0 ≤ v) (h1 : v < xs.length) : ∃ z ∈ xs, atI (xs.map V.int) v = some (.int z) := by
  have hj : v.toNat < xs.length := by omega
  refine ⟨xs[v.toNat], List.getElem_mem hj, at_of (j := v.toNat) (by omega) ?_⟩
  rw [List.getElem?_map, List.getElem?_eq_getElem hj]
  rfl
theorem okP_tag {c k : Int} (h : 0 ≤ c) (k0 : 0 ≤ k) (k1 : k < 4) : okP c (2 * k) 2 = true := by
  unfold okP
  rw [decide_eq_true h, if_pos rfl, decide_eq_true (by omega), decide_eq_true (by omega), decide_eq_true (by omega)]
  rfl
theorem okP_whole {c m : Int} (h : 0 ≤ c) (k0 : 1 ≤ m) (k1 : m ≤ 64) : okP c 0 (8 * m) = true := by
  unfold okP
  rw [decide_eq_true h, if_neg (by omega), decide_eq_true rfl, decide_eq_true (by omega), decide_eq_true (by omega), decide_eq_true (by omega)]
  rfl
def spPlace : Sp := fun vs H Q _ => ∃ (t : Addr) (W : Int), vs = [.ref t, .int W] ∧ DSt H t ∧ 1 ≤ W ∧ W ≤ 10000 ∧ ∀ p H1 (c s b : Int), H p = none → Off t H H1 → DSt H1 t → H1 p = some (.tup [.int c, .int s, .int b]) → okP c s b = true → lastC c s b < W → Q (.ref p) H1
section
variable {P : Program} {w : World} {K : PySem.W.Frag} {mg : Str → Option Value} {base : Heap}
theorem ok_place {f : Addr} {fd : FuncData} (F : Fun K "_law_place" "_law_place" s_law_place f fd) (z_min : mg "min" = none) (D_law_draw : Dn P w K mg base CX0 1 "_law_draw" ["_law_state", "_law_many"] spDraw) : FnOk P w K mg base CX0 2 f fd ["_law_state", "_law_wide"] spPlace := by
  refine F.ok sc_law_place (fun vs H Q E h => ?_) (fun cdv A outer s H vs Q E hr h => ?_)
  · obtain ⟨t, W, rfl, _⟩ := h
    rfl
  · obtain ⟨t, W, rfl, d0, hW, hW2, q⟩ := h
    refine ⟨_, (pss_cons (ps_set (i := 2) sc_law_place.nd rfl (by first | exact Or.inl rfl | exact Or.inr rfl) (pe_ix (ix_listK (K := K)) (pe_lst (pa_cons pe_int (pa_cons (pe_op op_sub (pv 1) pe_int) (pa_cons (pe_cd D_law_draw (hr.mono (by decide)) (by rfl) pass0 (pa_cons (pv 0) (pa_cons (pv 1) pa_nil))) (pa_cons (pe_cd D_law_draw (hr.mono (by decide)) (by rfl) pass0 (pa_cons (pv 0) (pa_cons (pv 1) pa_nil))) pa_nil))))) (pe_cd D_law_draw (hr.mono (by decide)) (by rfl) pass0 (pa_cons (pv 0) (pa_cons pe_int pa_nil))) (fun _ _ => rfl)))
      (pss_cons (ps_if (pt_cmpR op_eq (pe_cd D_law_draw (hr.mono (by decide)) (by rfl) pass0 (pa_cons (pv 0) (pa_cons pe_int pa_nil))) pe_int (nomark _)) (pss_one (ps_ret (pe_tup (pa_cons (pv 2) (pa_cons (pe_op op_mul pe_int (pe_cd D_law_draw (hr.mono (by decide)) (by rfl) pass0 (pa_cons (pv 0) (pa_cons pe_int pa_nil)))) (pa_cons pe_int pa_nil)))))) pss_nil)
      (pss_cons (ps_set (i := 3) sc_law_place.nd rfl (by first | exact Or.inl rfl | exact Or.inr rfl) (pe_callB (call_min2R rfl) (by rfl) z_min (by decide +kernel) (pa_cons pe_int (pa_cons (pe_op op_sub (pv 1) (pv 2)) pa_nil))))
      (pss_cons (ps_set (i := 4) sc_law_place.nd rfl (by first | exact Or.inl rfl | exact Or.inr rfl) (pe_ix (ix_listK (K := K)) (pe_lst (pa_cons pe_int (pa_cons (pv 3) (pa_cons (pe_op op_add pe_int (pe_cd D_law_draw (hr.mono (by decide)) (by rfl) pass0 (pa_cons (pv 0) (pa_cons (pv 3) pa_nil)))) (pa_cons (pe_op op_add pe_int (pe_cd D_law_draw (hr.mono (by decide)) (by rfl) pass0 (pa_cons (pv 0) (pa_cons (pe_callB (call_min2R rfl) (by rfl) z_min (by decide +kernel) (pa_cons (pv 3) (pa_cons pe_int pa_nil))) pa_nil)))) pa_nil))))) (pe_cd D_law_draw (hr.mono (by decide)) (by rfl) pass0 (pa_cons (pv 0) (pa_cons pe_int pa_nil))) (fun _ _ => rfl)))
      (pss_one (ps_ret (pe_tup (pa_cons (pv 2) (pa_cons pe_int (pa_cons (pe_op op_mul pe_int (pv 4)) pa_nil)))))))))), ?_⟩
    walk_at "rd"
    refine ⟨t, W, rfl, d0, by omega, by omega, fun v1 H1 a1 b1 o1 d1 => ?_⟩
    walk_at "rd"
    refine ⟨t, W, rfl, d1, by omega, by omega, fun v2 H2 a2 b2 o2 d2 => ?_⟩
    walk_at "rd"
    refine ⟨by decide, New.intro fun g H3 ng s3 h3 => ?_⟩
    have d3 := d2.same s3
    refine ⟨t, 4, rfl, d3, by decide, by decide, fun v4 H4 a4 b4 o4 d4 => ?_⟩
    walk_at "rd"
    have h4 := o4 _ _ (Ne.symm (d2.ne ng)) h3
    obtain ⟨z, hz, ez⟩ := pickI (xs := [0, W - 1, v1, v2]) a4 b4
    have hz1 : 0 ≤ z ∧ z < W := by
      simp only [List.mem_cons, List.not_mem_nil, or_false] at hz
      omega
    have O4 : Off t H H4 := ((o1.trans o2).trans (Off.of s3)).trans o4
    refine ⟨_, seq_of h4, _, ez, ?_⟩
    refine ⟨t, 3, rfl, d4, by decide, by decide, fun v5 H5 a5 b5 o5 d5 => ?_⟩
    walk_at "rd"
    refine ite2 (fun _ => ?_) (fun _ => ?_)
    · refine ⟨t, 4, rfl, d5, by decide, by decide, fun v6 H6 a6 b6 o6 d6 => ?_⟩
      walk_at "rd"
      exact ⟨.inl ⟨by decide, by decide⟩, by decide, New.intro fun p H7 np s7 h7 => q p H7 _ _ _ (noneD (O4.trans (o5.trans o6)) d0 d6 np) ((O4.trans (o5.trans o6)).trans (Off.of s7)) (d6.same s7) h7 (okP_tag hz1.1 a6 b6) (by unfold lastC; omega)⟩
    · have hM : 1 ≤ (if W - z < 64 then W - z else 64) ∧ (if W - z < 64 then W - z else 64) ≤ 64 ∧ (if W - z < 64 then W - z else 64) ≤ W - z := by
        split <;> omega
      generalize (if W - z < 64 then W - z else 64) = M at hM ⊢
      refine ⟨t, M, rfl, d5, by omega, by omega, fun v6 H6 a6 b6 o6 d6 => ?_⟩
      walk_at "rd"
      have hN : 1 ≤ (if 4 < M then 4 else M) ∧ (if 4 < M then 4 else M) ≤ 4 ∧ (if 4 < M then 4 else M) ≤ M := by
        split <;> omega
      generalize (if 4 < M then 4 else M) = N at hN ⊢
      refine ⟨t, N, rfl, d6, by omega, by omega, fun v7 H7 a7 b7 o7 d7 => ?_⟩
      walk_at "rd"
      refine ⟨by decide, New.intro fun u H8 nu s8 h8 => ?_⟩
      have d8 := d7.same s8
      refine ⟨t, 4, rfl, d8, by decide, by decide, fun v9 H9 a9 b9 o9 d9 => ?_⟩
      walk_at "rd"
      have h9 := o9 _ _ (Ne.symm (d7.ne nu)) h8
      obtain ⟨y, hy, ey⟩ := pickI (xs := [1, M, 1 + v6, 1 + v7]) a9 b9
      have hy1 : 1 ≤ y ∧ y ≤ 64 ∧ y ≤ M := by
        simp only [List.mem_cons, List.not_mem_nil, or_false] at hy
        omega
      have O9 : Off t H H9 := ((O4.trans (o5.trans (o6.trans o7))).trans (Off.of s8)).trans o9
      exact ⟨_, seq_of h9, _, ey, _, rfl, .inl ⟨by decide, by decide⟩, by decide, New.intro fun p H10 np s10 h10 => q p H10 _ _ _ (noneD O9 d0 d9 np) (O9.trans (Off.of s10)) (d9.same s10) h10 (okP_whole hz1.1 hy1.1 hy1.2.1) (by unfold lastC; omega)⟩
end

/-! ### things of which repr is told, while some objects change -/
/-- the objects in S are there, and lists -/
def Live (S : List Addr) (H : Hp) : Prop := ∀ a ∈ S, ∃ xs, H a = some (.lst xs)
theorem Live.fresh {S : List Addr} {H : Hp} {p : Addr} (l : Live S H) (h : H p = none) : p ∉ S := fun m => by
  obtain ⟨xs, e⟩ := l p m
  rw [h] at e
  cases e
theorem Live.same {S : List Addr} {H H1 : Hp} (l : Live S H) (s : Same H H1) : Live S H1 := fun a m => let ⟨xs, e⟩ := l a m; ⟨xs, s _ _ e⟩
def okDt (d : PyData) : Bool := d.showable && decide (d.depth ≤ 60) && decide (d.shown.length ≤ sizeLine)
theorem okDt_of {d : PyData} (h : okDt d = true) : d.showable = true ∧ d.depth ≤ 60 ∧ d.shown.length ≤ sizeLine := by
  unfold okDt at h
  rw [Bool.and_eq_true, Bool.and_eq_true] at h
  exact ⟨h.1.1, of_decide_eq_true h.1.2, of_decide_eq_true h.2⟩
/-- small data -/
def Sm (n k : Nat) (d : PyData) : Prop := d.showable = true ∧ d.depth ≤ k ∧ d.shown.length ≤ n
theorem Sm.ok {n k : Nat} {d : PyData} (h : Sm n k d) (hn : n ≤ 100000) (hk : k ≤ 60) : okDt d = true := by
  unfold okDt
  rw [h.1, decide_eq_true (Nat.le_trans h.2.1 hk), decide_eq_true (Nat.le_trans h.2.2 (sz100 hn))]
  rfl
theorem Sm.le {n m k j : Nat} {d : PyData} (h : Sm n k d) (h1 : n ≤ m) (h2 : k ≤ j) : Sm m j d := ⟨h.1, Nat.le_trans h.2.1 h2, Nat.le_trans h.2.2 h1⟩
theorem sm_nat {n : Nat} (h : n < 10 ^ 30) : Sm 40 0 (.int (n : Int)) := by
  refine ⟨?_, Nat.le_refl _, ?_⟩
  · rw [PyData.showable]
    refine decide_eq_true ?_
    by_cases h0 : n = 0
    · subst h0
      decide
    · rw [Int.natAbs_natCast]
      exact (Nat.log2_lt h0).mpr (Nat.lt_of_lt_of_le h (Nat.le_trans (by decide : 10 ^ 30 ≤ 2 ^ 100) (Nat.pow_le_pow_right (by decide) (show 100 ≤ 1920 by decide))))
  · rw [PyData.shown]
    show (Str.ofString (toString (n : Int))).length ≤ 40
    rw [num_S, S_len]
    exact Nat.le_trans (TL.numL_len (k := 30) (by decide) h) (by decide)
theorem sm_int {i : Int} (h0 : 0 ≤ i) (h : i < 10 ^ 30) : Sm 40 0 (.int i) := by
  obtain ⟨n, rfl⟩ : ∃ n : Nat, i = n := ⟨i.toNat, by omega⟩
  exact sm_nat (by omega)
theorem sm_all {n k : Nat} : ∀ {ds : List PyData}, (∀ d ∈ ds, Sm n k d) → PyData.showableAll ds = true ∧ PyData.depthAll ds ≤ k ∧ piled (PyData.shownAll ds) ≤ (n + 2) * ds.length ∧ (PyData.shownAll ds).length = ds.length
  | [], _ => ⟨rfl, Nat.zero_le _, Nat.zero_le _, rfl⟩
  | d :: r, h => by
    obtain ⟨a1, a2, a3⟩ := h d List.mem_cons_self
    obtain ⟨b1, b2, b3, b4⟩ := sm_all (ds := r) fun x hx => h x (List.mem_cons_of_mem _ hx)
    refine ⟨?_, ?_, ?_, ?_⟩
    · rw [PyData.showableAll, a1, b1]
      rfl
    · rw [PyData.depthAll]
      exact Nat.max_le.mpr ⟨a2, b2⟩
    · rw [PyData.shownAll, piled_cons, List.length_cons, Nat.mul_succ]
      omega
    · rw [PyData.shownAll, List.length_cons, List.length_cons, b4]
theorem sm_tup {n k : Nat} {ds : List PyData} (h : ∀ d ∈ ds, Sm n k d) (l : ds.length ≤ 5) : Sm (5 * (n + 2) + 5) (k + 1) (.tuple ds) := by
  obtain ⟨b1, b2, b3, b4⟩ := sm_all h
  refine ⟨by rw [PyData.showable]; exact b1, by rw [PyData.depth]; omega, ?_⟩
  rw [PyData.shown]
  unfold tupleText
  rw [strLen_append, strLen_append]
  have e1 : ((("(" : String) : Str)).length = 1 := rfl
  have e3 : (Str.join ", " (PyData.shownAll ds)).length ≤ (n + 2) * ds.length := by
    by_cases e : PyData.shownAll ds = []
    · rw [e]
      exact Nat.zero_le _
    · have := join_length_add _ e
      omega
  have e4 : (((if (PyData.shownAll ds).length == 1 then ",)" else ")" : String) : Str)).length ≤ 2 := by split <;> decide
  have e5 : (n + 2) * ds.length ≤ (n + 2) * 5 := Nat.mul_le_mul_left _ l
  omega
theorem textFrom_le : ∀ (ts : List Str) (k : Nat) (acc : Str), (textFrom k acc ts).length ≤ acc.length + piled ts
  | [], _, _ => Nat.le_refl _
  | t :: r, k, acc => by
    rw [textFrom, piled_cons]
    have := textFrom_le r (k + 1) (acc ++ (if k > 0 then ", " else "" : String) ++ t)
    rw [strLen_append, strLen_append] at this
    have e : (((if k > 0 then ", " else "" : String) : Str)).length ≤ 2 := by split <;> decide
    omega
theorem sm_lst {n k : Nat} {ds : List PyData} (h : ∀ d ∈ ds, Sm n k d) (l : ds.length ≤ 5) : Sm (5 * (n + 2) + 5) (k + 1) (.list ds) := by
  obtain ⟨b1, b2, b3, b4⟩ := sm_all h
  refine ⟨by rw [PyData.showable]; exact b1, by rw [PyData.depth]; omega, ?_⟩
  rw [PyData.shown]
  unfold listText
  rw [strLen_append]
  have e1 : ((("[" : String) : Str)).length = 1 := rfl
  have e2 : ((("]" : String) : Str)).length = 1 := rfl
  have := textFrom_le (PyData.shownAll ds) 0 "["
  have e5 : (n + 2) * ds.length ≤ (n + 2) * 5 := Nat.mul_le_mul_left _ l
  omega
/-- a thing of which repr is told, whatever becomes of the objects in S -/
def TgS (K : PySem.W.Frag) (S : List Addr) (H : Hp) (x : V) : Prop := ∃ (T : String) (dt : PyData), (∀ H1, OffS S H H1 → Th K H1 x T ∧ Shw K H1 x dt) ∧ dt.showable = true ∧ dt.depth ≤ 60 ∧ dt.shown.length ≤ sizeLine
theorem TgS.keep {K : PySem.W.Frag} {S : List Addr} {H H1 : Hp} {x : V} (t : TgS K S H x) (o : OffS S H H1) : TgS K S H1 x := let ⟨T, dt, h, r⟩ := t; ⟨T, dt, fun H2 o2 => h H2 (o.trans o2), r⟩
theorem TgS.atom {K : PySem.W.Frag} {S : List Addr} {H : Hp} {x : V} (t : TgS K S H x) : atom x = true := by
  obtain ⟨T, dt, h, _⟩ := t
  have := (h H OffS.refl).1
  cases this <;> rfl
section
variable {K : PySem.W.Frag} {S : List Addr} {H : Hp}
theorem ts_int {i : Int} (h : okDt (.int i) = true) : TgS K S H (.int i) := ⟨_, .int i, fun _ _ => ⟨.int _, .dp (.int _) rfl⟩, okDt_of h⟩
theorem ts_bl {b : Bool} (h : okDt (.bool b) = true) : TgS K S H (.bl b) := ⟨_, .bool b, fun _ _ => ⟨.bl _, .dp (.bl _) rfl⟩, okDt_of h⟩
theorem ts_non : TgS K S H .non := ⟨_, .none, fun _ _ => ⟨.non, .dp .non rfl⟩, okDt_of (by decide +kernel)⟩
theorem ts_str {z : Str} (h : okDt (.str z) = true) : TgS K S H (.str z) := ⟨_, .str z, fun _ _ => ⟨.str _, .dp (.str _) rfl⟩, okDt_of h⟩
theorem ts_lst {a : Addr} {xs : List V} (h : H a = some (.lst xs)) (n : a ∉ S) (hp : xs.all isPd = true) (nd : PyData.hasDict (.list (xs.map pd)) = false) (o : okDt (.list (xs.map pd)) = true) : TgS K S H (.ref a) := ⟨_, _, fun _ s => ⟨.lst (seq_of (s _ _ n h)), .dp (dp_lst (seq_of (s _ _ n h)) hp) nd⟩, okDt_of o⟩
theorem ts_tup {a : Addr} {xs : List V} (h : H a = some (.tup xs)) (n : a ∉ S) (hp : xs.all isPd = true) (nd : PyData.hasDict (.tuple (xs.map pd)) = false) (o : okDt (.tuple (xs.map pd)) = true) : TgS K S H (.ref a) := ⟨_, _, fun _ s => ⟨.tup (seqT_of (s _ _ n h)), .dp (dp_tup (seqT_of (s _ _ n h)) hp) nd⟩, okDt_of o⟩
theorem ts_dk {a : Addr} {kvs : List (Key × V)} (h : H a = some (.dK kvs)) (n : a ∉ S) (f : kvs.all (fun p => isPd p.2) = true) (o : okDt (.dict (kvs.map fun p => (pd (kV p.1), pd p.2))) = true) : TgS K S H (.ref a) := ⟨_, _, fun _ s => ⟨.dK (s _ _ n h), .dk (s _ _ n h) f⟩, okDt_of o⟩
end

/-! ### the law -/
def PlS (K : PySem.W.Frag) (S : List Addr) (H : Hp) (x : V) : Prop := ∀ H1, OffS S H H1 → PlaceTh K H1 x false
theorem PlS.keep {K : PySem.W.Frag} {S : List Addr} {H H1 : Hp} {x : V} (t : PlS K S H x) (o : OffS S H H1) : PlS K S H1 x := fun H2 o2 => t H2 (o.trans o2)
theorem PlS.now {K : PySem.W.Frag} {S : List Addr} {H : Hp} {x : V} (t : PlS K S H x) : PlaceTh K H x false := t H OffS.refl
theorem Refuses.same {C : Addr} {H H1 : Hp} {x : V} {E : XK} (r : Refuses C H x E) (s : Same H H1) : Refuses C H1 x E := fun d H2 nd s2 h => r d H2 (s.free nd) (s.trans s2) h
theorem PlaceIn.same {K : PySem.W.Frag} {H H1 : Hp} {x : V} {w : Nat} {ok : Bool} (h : PlaceIn K H x w ok) (s : Same H H1) : PlaceIn K H1 x w ok := by
  rcases h with ⟨h, e⟩ | ⟨a, c, sh, b, e, h, o, k⟩
  · exact .inl ⟨h.same s, e⟩
  · exact .inr ⟨a, c, sh, b, e, Same.seqT s h, o, k⟩
def spShBad (K : PySem.W.Frag) (C : Addr) : Sp := fun vs H Q E => ∃ (x y : V), vs = [x, y] ∧ ((PlaceTh K H x false ∧ Refuses C H x E) ∨ (PlaceTh K H x true ∧ PlaceTh K H y false ∧ Refuses C H y E))
/-- what a door tells: refused with z -/
inductive TB (K : PySem.W.Frag) (H : Hp) (w : Nat) : Int → V → V → V → Prop
  | first {k : Int} {x y : V} (hk : k = 0 ∨ k = 1 ∨ k = 2 ∨ k = 3 ∨ k = 4) (h : PlaceTh K H x false) : TB K H w k x y x
  | second {x y : V} (h1 : PlaceTh K H x true) (h2 : PlaceTh K H y false) : TB K H w 2 x y y
  | past {k : Int} {x y : V} (hk : k = 3 ∨ k = 4) (h : PlaceIn K H x w false) : TB K H w k x y x
/-- or nothing -/
inductive TO (K : PySem.W.Frag) (H : Hp) (w : Nat) : Int → V → Prop
  | at (k : Int) (a : Addr) (c s b : Nat) (hk : k = 0 ∨ k = 1 ∨ (k = 3 ∧ lastC c s b < (w : Int))) (h : SqT K H a [.int (c : Int), .int (s : Int), .int (b : Int)]) (o : okP c s b = true) : TO K H w k (.ref a)
def spTold (K : PySem.W.Frag) (C : Addr) : Sp := fun vs H Q _ => ∃ (p d : Addr) (w : Nat) (B : Nat → Bool) (k : Int) (x y : V), vs = [.ref p, .int k, x, y] ∧ RoomAt C H p d w B ∧ w ≤ 8192 ∧
  ((∃ z, TB K H w k x y z ∧ ∀ u H1, H u = none → Same H H1 → H1 u = some (.lst [.str "place", z]) → Q (.ref u) H1) ∨ (TO K H w k x ∧ ∀ u H1, H u = none → Same H H1 → H1 u = some (.lst [.str "none"]) → Q (.ref u) H1))
def spSame (K : PySem.W.Frag) : Sp := fun vs H Q _ => ∃ (u : Addr) (x : V), vs = [.ref u, x] ∧ SqL K H u [.str "place", x] ∧ TgS K [] H x ∧ ∀ H1, Same H H1 → Q (.bl true) H1
/-- a scalar whose repr is short -/
def SmV (x : V) : Prop := isPd x = true ∧ Sm 40 0 (pd x) ∧ PyData.hasDict (pd x) = false
theorem smv_int {i : Int} (h0 : 0 ≤ i) (h : i < 10 ^ 30) : SmV (.int i) := ⟨rfl, sm_int h0 h, rfl⟩
theorem sm_all_of {xs : List V} (h : ∀ x ∈ xs, SmV x) : xs.all isPd = true ∧ (∀ d ∈ xs.map pd, Sm 40 0 d) ∧ PyData.hasDictAll (xs.map pd) = false := by
  refine ⟨List.all_eq_true.mpr fun x hx => (h x hx).1, fun d hd => ?_, ?_⟩
  · obtain ⟨x, hx, rfl⟩ := List.mem_map.mp hd
    exact (h x hx).2.1
  · induction xs with
    | nil => rfl
    | cons x r ih =>
      rw [List.map_cons, PyData.hasDictAll, (h x List.mem_cons_self).2.2, ih fun y hy => h y (List.mem_cons_of_mem _ hy)]
      rfl
theorem placeTh_tupS {K : PySem.W.Frag} {H : Hp} {a : Addr} {xs : List V} (h : SqT K H a xs) (hp : xs.all isPd = true) (n : placeOk xs = false) : PlaceTh K H (.ref a) false := by
  refine .inr ⟨a, xs, rfl, h, fun y hy => ?_, n.symm⟩
  have := List.all_eq_true.mp hp y hy
  cases y with
  | int i => exact ⟨_, .int i⟩
  | bl b => exact ⟨_, .bl b⟩
  | str z => exact ⟨_, .str z⟩
  | non => exact ⟨_, .non⟩
  | _ => cases this
/-- a thing that is no place, whatever becomes of the objects in S -/
def Bad (K : PySem.W.Frag) (S : List Addr) (H : Hp) (x : V) : Prop := TgS K S H x ∧ PlS K S H x
theorem Bad.keep {K : PySem.W.Frag} {S : List Addr} {H H1 : Hp} {x : V} (t : Bad K S H x) (o : OffS S H H1) : Bad K S H1 x := ⟨t.1.keep o, t.2.keep o⟩
theorem Live.off {S : List Addr} {t : Addr} {H H1 : Hp} (l : Live S H) (o : Off t H H1) (d : DSt H1 t) : Live S H1 := fun a m => by
  by_cases e : a = t
  · subst e
    obtain ⟨_, _, _, h⟩ := d
    exact ⟨_, h⟩
  · obtain ⟨xs, h⟩ := l a m
    exact ⟨xs, o _ _ e h⟩
/-- a part of a thing -/
def El (K : PySem.W.Frag) (S : List Addr) (H : Hp) (x : V) : Prop := ∃ (T : String) (dt : PyData), (∀ H1, OffS S H H1 → Th K H1 x T ∧ Dp K H1 x dt) ∧ dt.hasDict = false ∧ Sm 300 3 dt
section
variable {K : PySem.W.Frag} {S : List Addr} {H H1 : Hp}
theorem El.keep {x : V} (e : El K S H x) (o : OffS S H H1) : El K S H1 x := let ⟨T, dt, h, r⟩ := e; ⟨T, dt, fun H2 o2 => h H2 (o.trans o2), r⟩
theorem el_sc {x : V} (h : SmV x) : El K S H x := by
  obtain ⟨h1, h2, h3⟩ := h
  obtain ⟨T, t⟩ : ∃ T, ∀ H1, Th K H1 x T := by
    cases x with
    | int i => exact ⟨_, fun _ => .int i⟩
    | bl b => exact ⟨_, fun _ => .bl b⟩
    | str z => exact ⟨_, fun _ => .str z⟩
    | non => exact ⟨_, fun _ => .non⟩
    | _ => cases h1
  exact ⟨T, pd x, fun H1 _ => ⟨t H1, dp_pd h1⟩, h3, h2.le (by decide) (by decide)⟩
theorem els : ∀ {xs : List V}, (∀ x ∈ xs, El K S H x) → ∃ ds : List PyData, (∀ H1, OffS S H H1 → DpAll K H1 xs ds) ∧ PyData.hasDictAll ds = false ∧ (∀ d ∈ ds, Sm 300 3 d) ∧ ds.length = xs.length
  | [], _ => ⟨[], fun _ _ => .nil, rfl, fun _ h => (nomatch h), rfl⟩
  | x :: r, h => by
    obtain ⟨T, dt, h1, h2, h3⟩ := h x List.mem_cons_self
    obtain ⟨ds, g1, g2, g3, g4⟩ := els (xs := r) fun y hy => h y (List.mem_cons_of_mem _ hy)
    refine ⟨dt :: ds, fun H1 o => .cons (h1 H1 o).2 (g1 H1 o), by rw [PyData.hasDictAll, h2, g2]; rfl, fun d hd => ?_, by rw [List.length_cons, List.length_cons, g4]⟩
    rcases List.mem_cons.mp hd with rfl | hd
    · exact h3
    · exact g3 d hd
theorem el_lst {a : Addr} {xs : List V} (h : H a = some (.lst xs)) (n : a ∉ S) (hx : ∀ x ∈ xs, SmV x) (l : xs.length ≤ 5) : El K S H (.ref a) := by
  obtain ⟨h1, h2, h3⟩ := sm_all_of hx
  exact ⟨"list", _, fun H1 o => ⟨.lst (seq_of (o _ _ n h)), dp_lst (seq_of (o _ _ n h)) h1⟩, by rw [PyData.hasDict]; exact h3, (sm_lst h2 (by rw [List.length_map]; exact l)).le (by decide) (by decide)⟩
theorem el_tup {a : Addr} {xs : List V} (h : H a = some (.tup xs)) (n : a ∉ S) (hx : ∀ x ∈ xs, SmV x) (l : xs.length ≤ 5) : El K S H (.ref a) := by
  obtain ⟨h1, h2, h3⟩ := sm_all_of hx
  exact ⟨"tuple", _, fun H1 o => ⟨.tup (seqT_of (o _ _ n h)), dp_tup (seqT_of (o _ _ n h)) h1⟩, by rw [PyData.hasDict]; exact h3, (sm_tup h2 (by rw [List.length_map]; exact l)).le (by decide) (by decide)⟩
theorem bad_tup {a : Addr} {xs : List V} (h : H a = some (.tup xs)) (n : a ∉ S) (hx : ∀ x ∈ xs, El K S H x) (l : xs.length ≤ 5) (po : placeOk xs = false) : Bad K S H (.ref a) := by
  obtain ⟨ds, g1, g2, g3, g4⟩ := els hx
  refine ⟨⟨"tuple", .tuple ds, fun H1 o => ⟨.tup (seqT_of (o _ _ n h)), .dp (.tup (seqT_of (o _ _ n h)) (g1 H1 o)) (by rw [PyData.hasDict]; exact g2)⟩, okDt_of ((sm_tup g3 (by omega)).ok (by decide) (by decide))⟩, fun H1 o => .inr ⟨a, xs, rfl, seqT_of (o _ _ n h), fun y hy => ?_, po.symm⟩⟩
  obtain ⟨T, dt, h1, _⟩ := hx y hy
  exact ⟨T, (h1 H1 o).1⟩
theorem bad_lst {a : Addr} {xs : List V} (h : H a = some (.lst xs)) (n : a ∉ S) (hx : ∀ x ∈ xs, El K S H x) (l : xs.length ≤ 5) : Bad K S H (.ref a) := by
  obtain ⟨ds, g1, g2, g3, g4⟩ := els hx
  exact ⟨⟨"list", .list ds, fun H1 o => ⟨.lst (seq_of (o _ _ n h)), .dp (.lst (seq_of (o _ _ n h)) (g1 H1 o)) (by rw [PyData.hasDict]; exact g2)⟩, okDt_of ((sm_lst g3 (by omega)).ok (by decide) (by decide))⟩, fun H1 o => .inl ⟨"list", .lst (seq_of (o _ _ n h)), by decide, rfl⟩⟩
theorem bad_dk {a : Addr} {kvs : List (Key × V)} (h : H a = some (.dK kvs)) (n : a ∉ S) (f : kvs.all (fun p => isPd p.2) = true) (o : okDt (.dict (kvs.map fun p => (pd (kV p.1), pd p.2))) = true) : Bad K S H (.ref a) := ⟨ts_dk h n f o, fun H1 o => .inl ⟨"dict", .dK (o _ _ n h), by decide, rfl⟩⟩
theorem bad_non : Bad K S H .non := ⟨ts_non, fun _ _ => .inl ⟨_, .non, by decide, rfl⟩⟩
theorem bad_bl {b : Bool} (h : okDt (.bool b) = true) : Bad K S H (.bl b) := ⟨ts_bl h, fun _ _ => .inl ⟨_, .bl _, by decide, rfl⟩⟩
theorem bad_int {i : Int} (h : okDt (.int i) = true) : Bad K S H (.int i) := ⟨ts_int h, fun _ _ => .inl ⟨_, .int _, by decide, rfl⟩⟩
theorem bad_str {z : Str} (h : okDt (.str z) = true) : Bad K S H (.str z) := ⟨ts_str h, fun _ _ => .inl ⟨_, .str _, by decide, rfl⟩⟩
end
theorem okP_no {c s b : Int} (h : (if b = 2 then decide (0 ≤ s) && decide (s < 8) && decide (s % 2 = 0) else decide (s = 0) && decide (8 ≤ b) && decide (b ≤ 512) && decide (b % 8 = 0)) = false) : okP c s b = false := by
  unfold okP
  rw [h, Bool.and_false]
theorem okP_shift {c s v : Int} (hs : s ≠ 0) (hv : 0 ≤ v) : okP c s (8 + 8 * v) = false := by
  refine okP_no ?_
  rw [if_neg (by omega), decide_eq_false hs]
  rfl
theorem smv_dec {x : V} (h1 : isPd x = true) (h2 : (pd x).showable = true) (h3 : (pd x).shown.length ≤ 40) (h4 : (pd x).depth = 0) (h5 : PyData.hasDict (pd x) = false) : SmV x := ⟨h1, ⟨h2, Nat.le_of_eq h4, h3⟩, h5⟩
def spBad (K : PySem.W.Frag) : Sp := fun vs H Q _ => ∃ (t : Addr) (W : Int) (S : List Addr), vs = [.ref t, .int W] ∧ DSt H t ∧ 1 ≤ W ∧ W ≤ 10000 ∧ t ∈ S ∧ Live S H ∧ ∀ x H1, Off t H H1 → DSt H1 t → Bad K S H1 x → Q x H1
theorem TgS.nil {K : PySem.W.Frag} {S : List Addr} {H : Hp} {x : V} (t : TgS K S H x) : TgS K [] H x := let ⟨T, dt, h, r⟩ := t; ⟨T, dt, fun H1 o => h H1 fun a v n e => o a v (fun m => nomatch m) e, r⟩
/-- a good place in w cells -/
def Good (H : Hp) (w : Nat) (x : V) : Prop := ∃ (a : Addr) (c s b : Nat), x = .ref a ∧ H a = some (.tup [.int (c : Int), .int (s : Int), .int (b : Int)]) ∧ okP c s b = true ∧ lastC c s b < (w : Int)
theorem Good.off {t : Addr} {H H1 : Hp} {w : Nat} {x : V} (g : Good H w x) (d : DSt H t) (o : Off t H H1) : Good H1 w x := by
  obtain ⟨a, c, s, b, e, h, r⟩ := g
  refine ⟨a, c, s, b, e, o a _ (fun e => ?_) h, r⟩
  subst e
  obtain ⟨_, _, _, d⟩ := d
  rw [h] at d
  cases d
theorem Good.same {H H1 : Hp} {w : Nat} {x : V} (g : Good H w x) (s : Same H H1) : Good H1 w x := let ⟨a, c, sh, b, e, h, r⟩ := g; ⟨a, c, sh, b, e, s _ _ h, r⟩
theorem RoomAt.off {C t : Addr} {H H1 : Hp} {p d : Addr} {w : Nat} {B : Nat → Bool} (k : RoomAt C H p d w B) (n : d ≠ t) (ds : DSt H t) (o : Off t H H1) : RoomAt C H1 p d w B := by
  obtain ⟨⟨dx, h⟩, g⟩ := k
  refine ⟨⟨dx, o p _ (fun e => ?_) h⟩, o d _ n g⟩
  subst e
  obtain ⟨_, _, _, ds⟩ := ds
  rw [h] at ds
  cases ds
def spDoors (K : PySem.W.Frag) (C : Addr) : Sp := fun vs H Q _ => ∃ (t p d : Addr) (w : Nat) (B : Nat → Bool) (x y : V) (S : List Addr), vs = [.ref t, .ref p, x, y] ∧ DSt H t ∧ RoomAt C H p d w B ∧ d ≠ t ∧ w ≤ 8192 ∧ t ∈ S ∧ Bad K S H x ∧ Good H w y ∧ ∀ H1, Off t H H1 → DSt H1 t → Q (.bl true) H1
def spPast (K : PySem.W.Frag) (C : Addr) : Sp := fun vs H Q _ => ∃ (t p d : Addr) (w : Nat) (B : Nat → Bool), vs = [.ref t, .ref p, .int (w : Int)] ∧ DSt H t ∧ RoomAt C H p d w B ∧ d ≠ t ∧ 1 ≤ w ∧ w ≤ 8192 ∧ ∀ H1, OffS [t, d] H H1 → DSt H1 t → RoomAt C H1 p d w B → Q (.bl true) H1
def SelfEq (K : PySem.W.Frag) (H : Hp) (x : V) : Prop := scal x x = true ∨ (∃ a xs, x = .ref a ∧ (SqL K H a xs ∨ SqT K H a xs)) ∨ ∃ a, x = .ref a ∧ H a = some (.dK [])
def spNoRoom (K : PySem.W.Frag) : Sp := fun vs H Q _ => ∃ (x : V) (T : String), vs = [x] ∧ Th K H x T ∧ isIn x 1 8192 = false ∧ TgS K [] H x ∧ SelfEq K H x ∧ ∀ H1, Same H H1 → Q (.bl true) H1
def spLaw (K : PySem.W.Frag) : Sp := fun vs H Q _ => ∃ (a : Addr) (ns : List Int), vs = [.ref a] ∧ SqL K H a (ns.map V.int) ∧ ns.length ≤ 63 ∧ ∀ H', Q (.bl true) H'
section
variable {P : Program} {w : World} {K : PySem.W.Frag} {mg : Str → Option Value} {base : Heap}
theorem ok_shBad {f C_NoPlace : Addr} {fd : FuncData} (F : Fun K "shares" "shares" s_shares f fd) (c_CELL_BITS : ∃ t, mg "CELL_BITS" = some (.int 8 t)) (D_need_place : Dn P w K mg base (L2.CX P w) 3 "need_place" ["thing"] (spNeed K C_NoPlace)) : FnOk P w K mg base (L2.CX P w) 4 f fd ["one", "other"] (spShBad K C_NoPlace) := by
  refine F.okX sc_shares (fun vs H Q E h => ?_) (fun cdv A outer s H vs Q E hr h => ?_)
  · obtain ⟨x, y, rfl, _⟩ := h
    rfl
  · obtain ⟨x, y, rfl, h⟩ := h
    refine ⟨_, (pss_cons (ps_expr (pe_cdS D_need_place (hr.mono (by decide)) (by rfl) (fun σ => passAt (takes_of rfl rfl rfl rfl) σ) (pa_cons (pv 0) pa_nil)))
      (pss_cons (ps_expr (pe_cdS D_need_place (hr.mono (by decide)) (by rfl) (fun σ => passAt (takes_of rfl rfl rfl rfl) σ) (pa_cons (pv 1) pa_nil)))
      (pss_cons (ps_set (i := 2) sc_shares.nd rfl (by first | exact Or.inl rfl | exact Or.inr rfl) (pe_op op_add (pe_op op_mulX (pe_gi (by rfl) c_CELL_BITS) (pe_ix (ix_tupK (K := K)) (pv 0) pe_int (fun _ _ => rfl))) (pe_ix (ix_tupK (K := K)) (pv 0) pe_int (fun _ _ => rfl))))
      (pss_cons (ps_set (i := 3) sc_shares.nd rfl (by first | exact Or.inl rfl | exact Or.inr rfl) (pe_op op_add (pe_op op_mulX (pe_gi (by rfl) c_CELL_BITS) (pe_ix (ix_tupK (K := K)) (pv 1) pe_int (fun _ _ => rfl))) (pe_ix (ix_tupK (K := K)) (pv 1) pe_int (fun _ _ => rfl))))
      (pss_one (ps_ret (pe_and (pe_cmpR op_lt (pv 2) (pe_op op_add (pv 3) (pe_ix (ix_tupK (K := K)) (pv 1) pe_int (fun _ _ => rfl))) (nomark _)) (pe_one (pe_cmpR op_lt (pv 3) (pe_op op_add (pv 2) (pe_ix (ix_tupK (K := K)) (pv 0) pe_int (fun _ _ => rfl))) (nomark _)))))))))), ?_⟩
    walk_at "rd"
    rcases h with ⟨hp, q⟩ | ⟨hp, hp2, q⟩
    · exact ⟨x, false, rfl, hp, fun h => absurd h (by decide), fun _ => q⟩
    · exact ⟨x, true, rfl, hp, fun _ => ⟨y, false, rfl, hp2, fun h => absurd h (by decide), fun _ => q⟩, fun h => absurd h (by decide)⟩
theorem ok_told {f C_Room C_NoPlace C_RoomError : Addr} {fd : FuncData} (F : Fun K "_law_told" "_law_told" s_law_told f fd) (G_NoPlace : mg "NoPlace" = some (.ref C_NoPlace)) (G_RoomError : mg "RoomError" = some (.ref C_RoomError)) (Y_NoPlace : XfC K C_NoPlace) (B_NoPlace_found : PySem.W.findIn K (.ref C_NoPlace) "found" = some none) (E_NoPlace_NoPlace : PySem.W.exmOne K (.ref C_NoPlace) (.ref C_NoPlace) = some true) (D_need_place : Dn P w K mg base (L2.CX P w) 3 "need_place" ["thing"] (spNeed K C_NoPlace)) (D_cells_in : Dn P w K mg base (L2.CX P w) 4 "cells_in" ["place"] (spCellsInX K C_NoPlace)) (D_shares : Dn P w K mg base (L2.CX P w) 4 "shares" ["one", "other"] (spShBad K C_NoPlace)) (N_Room_taken : Nn P w K mg base (L2.CX P w) 5 C_Room "taken" ["self", "place"] (spTaken K C_Room C_NoPlace)) (N_Room_left : Nn P w K mg base (L2.CX P w) 5 C_Room "left" ["self", "place", "number"] (spLeft K C_Room C_NoPlace)) : FnOk P w K mg base CX0 6 f fd ["_law_room", "_law_door", "_law_one", "_law_other"] (spTold K C_Room) := by
  refine F.ok sc_law_told (fun vs H Q E h => ?_) (fun cdv A outer s H vs Q E hr h => ?_)
  · obtain ⟨p, d, w, B, k, x, y, rfl, _⟩ := h
    rfl
  · obtain ⟨p, d, w, B, k, x, y, rfl, hR, hw, h⟩ := h
    refine ⟨_, (pss_cons (ps_set (i := 4) sc_law_told.nd rfl (by first | exact Or.inl rfl | exact Or.inr rfl) (pe_lst (pa_cons pe_str pa_nil)))
      (pss_cons (ps_try_mix rfl rfl takes0 (fun W pn xe tk po => (pss_one (ps_if (pt_cmpR op_eq (pv 1) pe_int (nomark _)) (pss_one (ps_expr (pe_cdS D_need_place (hr.mono (by decide)) (by rfl) (fun σ => passAt tk σ) (pa_cons (pv 2) pa_nil)))) (pss_one (ps_if (pt_cmpR op_eq (pv 1) pe_int (nomark _)) (pss_one (ps_expr (pe_cdS D_cells_in (hr.mono (by decide)) (by rfl) (fun σ => passAt tk σ) (pa_cons (pv 2) pa_nil)))) (pss_one (ps_if (pt_cmpR op_eq (pv 1) pe_int (nomark _)) (pss_one (ps_expr (pe_cdS D_shares (hr.mono (by decide)) (by rfl) (fun σ => passAt tk σ) (pa_cons (pv 2) (pa_cons (pv 3) pa_nil))))) (pss_one (ps_if (pt_cmpR op_eq (pv 1) pe_int (nomark _)) (pss_one (ps_expr (pe_mdS (pv 0) N_Room_taken (hr.mono (by decide)) (fun σ => passAt tk σ) (pa_cons (pv 2) pa_nil)))) (pss_one (ps_expr (pe_mdS (pv 0) N_Room_left (hr.mono (by decide)) (fun σ => passAt tk σ) (pa_cons (pv 2) (pa_cons (pe_op op_sub pe_int pe_int) pa_nil)))))))))))))) (.consAs (i := 5) sc_law_told.nd rfl rfl ⟨rfl, by decide, .inl G_NoPlace⟩ (fun a oe cls d pn hz hf => (pss_one (ps_set (i := 4) sc_law_told.nd rfl (by first | exact Or.inl rfl | exact Or.inr rfl) (pe_lst (pa_cons pe_str (pa_cons (pe_xfA hz hf (pv 5) (K := K)) pa_nil)))))) (.cons ⟨rfl, by decide, .inl G_RoomError⟩ (fun a oe cls d pn hz hf => (pss_one (ps_set (i := 4) sc_law_told.nd rfl (by first | exact Or.inl rfl | exact Or.inr rfl) (pe_lst (pa_cons pe_str pa_nil))))) .nil)))
      (pss_one (ps_ret (pv 4))))), ?_⟩
    walk_at "rd"
    refine ⟨by decide, New.intro fun u1 G n1 s1 h1 => ?_⟩
    have hR' := hR.same s1
    obtain ⟨⟨dx, hp1⟩, hd⟩ := id hR'
    rcases h with ⟨z, hb, q⟩ | ⟨ho, q⟩
    · cases hb with
      | first hk hp =>
        have hp' := hp.same s1
        rcases hk with rfl | rfl | rfl | rfl | rfl
        · refine iteP rfl ⟨x, false, rfl, hp', fun h => absurd h (by decide), fun _ => ?_⟩
          all_goals
            intro xd H3 nx s3 h3
            exact ⟨true, E_NoPlace_NoPlace, fun _ a na => ⟨_, rfl, rfl, _, rfl, Y_NoPlace, B_NoPlace_found, _, rfl, _, h3, _, lk0, by decide, New.intro fun u H4 nu s4 h4 => ⟨_, rfl, q u H4 ((s1.trans s3).free nu) ((s1.trans s3).trans s4) h4⟩⟩, fun h => by cases h⟩
        · refine iteN (by decide) (iteP rfl ⟨x, rfl, .inr ⟨hp', ?_⟩⟩)
          all_goals
            intro xd H3 nx s3 h3
            exact ⟨true, E_NoPlace_NoPlace, fun _ a na => ⟨_, rfl, rfl, _, rfl, Y_NoPlace, B_NoPlace_found, _, rfl, _, h3, _, lk0, by decide, New.intro fun u H4 nu s4 h4 => ⟨_, rfl, q u H4 ((s1.trans s3).free nu) ((s1.trans s3).trans s4) h4⟩⟩, fun h => by cases h⟩
        · refine iteN (by decide) (iteN (by decide) (iteP rfl ⟨x, y, rfl, .inl ⟨hp', ?_⟩⟩))
          all_goals
            intro xd H3 nx s3 h3
            exact ⟨true, E_NoPlace_NoPlace, fun _ a na => ⟨_, rfl, rfl, _, rfl, Y_NoPlace, B_NoPlace_found, _, rfl, _, h3, _, lk0, by decide, New.intro fun u H4 nu s4 h4 => ⟨_, rfl, q u H4 ((s1.trans s3).free nu) ((s1.trans s3).trans s4) h4⟩⟩, fun h => by cases h⟩
        · refine iteN (by decide) (iteN (by decide) (iteN (by decide) (iteP rfl ⟨_, _, hp1, rf_taken, p, d, w, B, x, rfl, hR', hw, .inr ⟨.inl ⟨hp', rfl⟩, ?_⟩⟩)))
          all_goals
            intro xd H3 nx s3 h3
            exact ⟨true, E_NoPlace_NoPlace, fun _ a na => ⟨_, rfl, rfl, _, rfl, Y_NoPlace, B_NoPlace_found, _, rfl, _, h3, _, lk0, by decide, New.intro fun u H4 nu s4 h4 => ⟨_, rfl, q u H4 ((s1.trans s3).free nu) ((s1.trans s3).trans s4) h4⟩⟩, fun h => by cases h⟩
        · refine iteN (by decide) (iteN (by decide) (iteN (by decide) (iteN (by decide) ⟨_, _, hp1, rf_left, p, d, w, B, x, _, rfl, hR', hw, .inr ⟨.inl ⟨hp', rfl⟩, ?_⟩⟩)))
          all_goals
            intro xd H3 nx s3 h3
            exact ⟨true, E_NoPlace_NoPlace, fun _ a na => ⟨_, rfl, rfl, _, rfl, Y_NoPlace, B_NoPlace_found, _, rfl, _, h3, _, lk0, by decide, New.intro fun u H4 nu s4 h4 => ⟨_, rfl, q u H4 ((s1.trans s3).free nu) ((s1.trans s3).trans s4) h4⟩⟩, fun h => by cases h⟩
      | second h1 h2 =>
        · refine iteN (by decide) (iteN (by decide) (iteP rfl ⟨x, y, rfl, .inr ⟨h1.same s1, h2.same s1, ?_⟩⟩))
          all_goals
            intro xd H3 nx s3 h3
            exact ⟨true, E_NoPlace_NoPlace, fun _ a na => ⟨_, rfl, rfl, _, rfl, Y_NoPlace, B_NoPlace_found, _, rfl, _, h3, _, lk0, by decide, New.intro fun u H4 nu s4 h4 => ⟨_, rfl, q u H4 ((s1.trans s3).free nu) ((s1.trans s3).trans s4) h4⟩⟩, fun h => by cases h⟩
      | past hk hp =>
        have hp' := PlaceIn.same hp s1
        rcases hk with rfl | rfl
        · refine iteN (by decide) (iteN (by decide) (iteN (by decide) (iteP rfl ⟨_, _, hp1, rf_taken, p, d, w, B, x, rfl, hR', hw, .inr ⟨hp', ?_⟩⟩)))
          all_goals
            intro xd H3 nx s3 h3
            exact ⟨true, E_NoPlace_NoPlace, fun _ a na => ⟨_, rfl, rfl, _, rfl, Y_NoPlace, B_NoPlace_found, _, rfl, _, h3, _, lk0, by decide, New.intro fun u H4 nu s4 h4 => ⟨_, rfl, q u H4 ((s1.trans s3).free nu) ((s1.trans s3).trans s4) h4⟩⟩, fun h => by cases h⟩
        · refine iteN (by decide) (iteN (by decide) (iteN (by decide) (iteN (by decide) ⟨_, _, hp1, rf_left, p, d, w, B, x, _, rfl, hR', hw, .inr ⟨hp', ?_⟩⟩)))
          all_goals
            intro xd H3 nx s3 h3
            exact ⟨true, E_NoPlace_NoPlace, fun _ a na => ⟨_, rfl, rfl, _, rfl, Y_NoPlace, B_NoPlace_found, _, rfl, _, h3, _, lk0, by decide, New.intro fun u H4 nu s4 h4 => ⟨_, rfl, q u H4 ((s1.trans s3).free nu) ((s1.trans s3).trans s4) h4⟩⟩, fun h => by cases h⟩
    · cases ho with
      | «at» a c s b hk h o =>
        have h' := Same.seqT s1 h
        rcases hk with rfl | rfl | ⟨rfl, hl⟩
        · exact iteP rfl ⟨_, true, rfl, by rw [← o]; exact placeTh_ints h', fun _ => q u1 G n1 s1 h1, fun h => absurd h (by decide)⟩
        · exact iteN (by decide) (iteP rfl ⟨_, rfl, .inl ⟨a, c, s, b, rfl, h', o, fun l H1 nl s2 h2 => q u1 H1 n1 (s1.trans s2) (s2 _ _ h1)⟩⟩)
        · exact iteN (by decide) (iteN (by decide) (iteN (by decide) (iteP rfl ⟨_, _, hp1, rf_taken, p, d, w, B, _, rfl, hR', hw, .inl ⟨a, c, s, b, rfl, h', o, hl, fun H1 s2 => q u1 H1 n1 (s1.trans s2) (s2 _ _ h1)⟩⟩)))
theorem ok_same {f : Addr} {fd : FuncData} (F : Fun K "_law_same" "_law_same" s_law_same f fd) (z_repr : mg "repr" = none) : FnOkG P w K mg base CX0 1 f fd ["_law_told_here", "_law_thing"] (spSame K) := by
  refine Fun_okG F sc_law_same (fun vs H Q E h => ?_) (fun cdv A outer s H vs Q E hr hA h => ?_)
  · obtain ⟨u, x, rfl, _⟩ := h
    rfl
  · obtain ⟨u, x, rfl, hu, ht, q⟩ := h
    refine ⟨_, (pss_one (ps_ret (pe_and (pe_cmpR (op_eqVK hr.units (K := K)) (pv 0) (pe_lst (pa_cons pe_str (pa_cons (pv 1) pa_nil))) (nomark _)) (pe_one (pe_cmpR op_eq (pe_callB (call_repr hA hr.units (K := K)) (by rfl) z_repr (by decide +kernel) (pa_cons (pe_ix (ix_listK (K := K)) (pv 0) pe_int (fun _ _ => rfl)) pa_nil)) (pe_callB (call_repr hA hr.units (K := K)) (by rfl) z_repr (by decide +kernel) (pa_cons (pv 1) pa_nil)) (nomark _)))))), ?_⟩
    walk_at "rd"
    refine ⟨by decide, New.intro fun p H1 np s1 h1 => ?_⟩
    obtain ⟨T, dt, h, c1, c2, c3⟩ := id ht
    have sh := (h H1 (OffS.same s1)).2
    have hu1 := s1.seq hu
    exact eqV_lists hu1 (seq_of h1) (by rw [List.all_cons, List.all_cons, ht.atom]; rfl) ⟨true, rfl, iteP rfl ⟨_, hu1, _, atI_nat (j := 1) rfl, dt, sh, c1, c2, c3, dt, sh, c1, c2, c3, by rw [decide_eq_true rfl]; exact q H1 s1⟩⟩
theorem ok_bad {f : Addr} {fd : FuncData} (F : Fun K "_law_bad" "_law_bad" s_law_bad f fd) (D_law_place : Dn P w K mg base CX0 2 "_law_place" ["_law_state", "_law_wide"] spPlace) (D_law_draw : Dn P w K mg base CX0 1 "_law_draw" ["_law_state", "_law_many"] spDraw) : FnOk P w K mg base CX0 3 f fd ["_law_state", "_law_wide"] (spBad K) := by
  refine F.ok sc_law_bad (fun vs H Q E h => ?_) (fun cdv A outer s H vs Q E hr h => ?_)
  · obtain ⟨t, W, S, rfl, _⟩ := h
    rfl
  · obtain ⟨t, W, S, rfl, d0, hW, hW2, tS, lS, q⟩ := h
    refine ⟨_, (pss_cons (ps_asg (pe_cd D_law_place (hr.mono (by decide)) (by rfl) pass0 (pa_cons (pv 0) (pa_cons (pv 1) pa_nil))) (pg_tup rfl (pgs_cons (pg_name (i := 2) sc_law_bad.nd rfl (by first | exact Or.inl rfl | exact Or.inr rfl)) (pgs_cons (pg_name (i := 3) sc_law_bad.nd rfl (by first | exact Or.inl rfl | exact Or.inr rfl)) (pgs_cons (pg_name (i := 4) sc_law_bad.nd rfl (by first | exact Or.inl rfl | exact Or.inr rfl)) pgs_nil)))))
      (pss_cons (ps_set (i := 5) sc_law_bad.nd rfl (by first | exact Or.inl rfl | exact Or.inr rfl) (pe_cd D_law_draw (hr.mono (by decide)) (by rfl) pass0 (pa_cons (pv 0) (pa_cons pe_int pa_nil))))
      (pss_cons (ps_if (pt_cmpR op_eq (pv 5) pe_int (nomark _)) (pss_one (ps_ret (pe_tup (pa_cons (pe_ix (ix_listK (K := K)) (pe_lst (pa_cons (pe_op op_sub pe_int pe_int) (pa_cons pe_non (pa_cons pe_bl (pa_cons pe_str (pa_cons (pe_lst (pa_cons pe_int pa_nil)) (pa_cons (pe_op op_sub pe_int (pe_op op_pow pe_int pe_int)) pa_nil))))))) (pe_cd D_law_draw (hr.mono (by decide)) (by rfl) pass0 (pa_cons (pv 0) (pa_cons pe_int pa_nil))) (fun _ _ => rfl)) (pa_cons (pv 3) (pa_cons (pv 4) pa_nil)))))) pss_nil)
      (pss_cons (ps_if (pt_cmpR op_eq (pv 5) pe_int (nomark _)) (pss_one (ps_ret (pe_tup (pa_cons (pv 2) (pa_cons (pe_ix (ix_listK (K := K)) (pe_lst (pa_cons (pe_op op_sub pe_int pe_int) (pa_cons pe_int (pa_cons pe_int (pa_cons pe_int (pa_cons pe_non (pa_cons pe_bl (pa_cons pe_str (pa_cons pe_int pa_nil))))))))) (pe_cd D_law_draw (hr.mono (by decide)) (by rfl) pass0 (pa_cons (pv 0) (pa_cons pe_int pa_nil))) (fun _ _ => rfl)) (pa_cons pe_int pa_nil)))))) pss_nil)
      (pss_cons (ps_if (pt_cmpR op_eq (pv 5) pe_int (nomark _)) (pss_one (ps_ret (pe_tup (pa_cons (pv 2) (pa_cons (pe_ix (ix_listK (K := K)) (pe_lst (pa_cons pe_int (pa_cons pe_int (pa_cons (pe_op op_sub pe_int pe_int) (pa_cons pe_int (pa_cons pe_non (pa_cons pe_bl pa_nil))))))) (pe_cd D_law_draw (hr.mono (by decide)) (by rfl) pass0 (pa_cons (pv 0) (pa_cons pe_int pa_nil))) (fun _ _ => rfl)) (pa_cons (pe_op op_add pe_int (pe_op op_mul pe_int (pe_cd D_law_draw (hr.mono (by decide)) (by rfl) pass0 (pa_cons (pv 0) (pa_cons pe_int pa_nil))))) pa_nil)))))) pss_nil)
      (pss_cons (ps_if (pt_cmpR op_eq (pv 5) pe_int (nomark _)) (pss_one (ps_ret (pe_tup (pa_cons (pv 2) (pa_cons pe_int (pa_cons (pe_ix (ix_listK (K := K)) (pe_lst (pa_cons pe_int (pa_cons pe_int (pa_cons pe_int (pa_cons pe_int (pa_cons pe_int (pa_cons pe_int (pa_cons (pe_op op_sub pe_int pe_int) (pa_cons pe_non (pa_cons pe_bl (pa_cons pe_str (pa_cons (pe_op op_pow pe_int pe_int) pa_nil)))))))))))) (pe_cd D_law_draw (hr.mono (by decide)) (by rfl) pass0 (pa_cons (pv 0) (pa_cons pe_int pa_nil))) (fun _ _ => rfl)) pa_nil)))))) pss_nil)
      (pss_cons (ps_if (pt_cmpR op_eq (pv 5) pe_int (nomark _)) (pss_cons (ps_set (i := 6) sc_law_bad.nd rfl (by first | exact Or.inl rfl | exact Or.inr rfl) (pe_lst (pa_cons (pe_lst (pa_cons (pv 2) (pa_cons (pv 3) (pa_cons (pv 4) pa_nil)))) (pa_cons (pe_tup (pa_cons (pv 2) (pa_cons (pv 3) pa_nil))) (pa_cons (pe_tup (pa_cons (pv 2) (pa_cons (pv 3) (pa_cons (pv 4) (pa_cons pe_int pa_nil))))) (pa_cons (pe_tup pa_nil) (pa_cons (pe_tup (pa_cons (pe_tup (pa_cons (pv 2) (pa_cons (pv 3) (pa_cons (pv 4) pa_nil)))) pa_nil)) pa_nil)))))))
      (pss_one (ps_ret (pe_ix (ix_listK (K := K)) (pv 6) (pe_cd D_law_draw (hr.mono (by decide)) (by rfl) pass0 (pa_cons (pv 0) (pa_cons pe_int pa_nil))) (fun _ _ => rfl))))) pss_nil)
      (pss_one (ps_ret (pe_ix (ix_listK (K := K)) (pe_lst (pa_cons pe_non (pa_cons pe_bl (pa_cons pe_int (pa_cons pe_str (pa_cons (pe_lst pa_nil) (pa_cons pe_dnewK (pa_cons (pe_disp (pps_cons pe_str pe_int pps_nil) rfl rfl (by intro h; cases h) (by decide)) (pa_cons pe_str pa_nil))))))))) (pe_cd D_law_draw (hr.mono (by decide)) (by rfl) pass0 (pa_cons (pv 0) (pa_cons pe_int pa_nil))) (fun _ _ => rfl))))))))))), ?_⟩
    walk_at "rd"
    refine ⟨t, W, rfl, d0, hW, hW2, fun p0 H1 c sh b np o1 d1 h1 okp lw => ?_⟩
    have hb := okP_last okp
    have l1 : Live S H1 := lS.off o1 d1
    refine ⟨p0, rfl, _, seqT_of h1, rfl, _, _, rfl, _, _, rfl, _, _, rfl, rfl, ?_⟩
    have sc : SmV (.int c) := smv_int hb.1 (by omega)
    have ss : SmV (.int sh) := smv_int hb.2.1 (by omega)
    have sb : SmV (.int b) := smv_int (by omega) (by omega)
    have s0 : SmV (.int 0) := smv_int (by decide) (by decide)
    have s2' : SmV (.int 2) := smv_int (by decide) (by decide)
    have tri : ∀ {H : Hp} {x y z : V}, El K S H x → El K S H y → El K S H z → ∀ v ∈ [x, y, z], El K S H v := fun h1 h2 h3 v hv => by
      simp only [List.mem_cons, List.not_mem_nil, or_false] at hv
      rcases hv with rfl | rfl | rfl <;> assumption
    refine ⟨t, 6, rfl, d1, by decide, by decide, fun way H2 wa wb o2 d2 => ?_⟩
    have l2 : Live S H2 := l1.off o2 d2
    have o12 := o1.trans o2
    have fin : ∀ {H3 : Hp} {xs : List V}, Off t H H3 → DSt H3 t → Live S H3 → (∀ x ∈ xs, El K S H3 x) → xs.length ≤ 5 → placeOk xs = false → New H3 (.tup xs) fun p H4 => Q (.ref p) H4 := fun o d l hx hl po =>
      New.intro fun p H4 np s4 h4 => q (.ref p) H4 (o.trans (Off.of s4)) (d.same s4) (bad_tup h4 (l.fresh np) (fun x hm => (hx x hm).keep (OffS.same s4)) hl po)
    refine ⟨rfl, ite2 (fun _ => ?_) (fun _ => ⟨rfl, ite2 (fun _ => ?_) (fun _ => ⟨rfl, ite2 (fun _ => ?_) (fun _ => ⟨rfl, ite2 (fun _ => ?_) (fun _ => ⟨rfl, ite2 (fun _ => ?_) (fun _ => ?_)⟩)⟩)⟩)⟩)⟩
    · refine ⟨by decide, New.intro fun u1 H3 n3 s3 h3 => ⟨⟨by decide, by decide, by decide⟩, by decide, New.intro fun u2 H4 n4 s4 h4 => ?_⟩⟩
      have l4 := (l2.same s3).same s4
      refine ⟨t, 6, rfl, (d2.same s3).same s4, by decide, by decide, fun v H5 va vb o5 d5 => ?_⟩
      have l5 : Live S H5 := l4.off o5 d5
      have h5 := o5 _ _ (Ne.symm ((d2.same s3).ne n4)) h4
      obtain ⟨x, ax, px⟩ : ∃ x, atI [V.int (0 - 1), V.non, V.bl true, V.str (Str.ofString "0"), V.ref u1, V.int (0 - 10 ^ Int.toNat 29)] v = some x ∧ El K S H4 x ∧ placeOk [x, .int sh, .int b] = false := by
        have : v = 0 ∨ v = 1 ∨ v = 2 ∨ v = 3 ∨ v = 4 ∨ v = 5 := by omega
        rcases this with rfl | rfl | rfl | rfl | rfl | rfl
        · exact ⟨_, rfl, (el_sc (smv_dec (by decide +kernel) (by decide +kernel) (by decide +kernel) rfl rfl)), rfl⟩
        · exact ⟨_, rfl, (el_sc (smv_dec (by decide +kernel) (by decide +kernel) (by decide +kernel) rfl rfl)), rfl⟩
        · exact ⟨_, rfl, (el_sc (smv_dec (by decide +kernel) (by decide +kernel) (by decide +kernel) rfl rfl)), rfl⟩
        · exact ⟨_, rfl, (el_sc (smv_dec (by decide +kernel) (by decide +kernel) (by decide +kernel) rfl rfl)), rfl⟩
        · exact ⟨_, rfl, (el_lst (s4 _ _ h3) (l2.fresh n3) (fun x hx => by rw [List.mem_singleton.mp hx]; exact s0) (by simp)), rfl⟩
        · exact ⟨_, rfl, (el_sc (smv_dec (by decide +kernel) (by decide +kernel) (by decide +kernel) rfl rfl)), (by show okP _ _ _ = false; unfold okP; rw [decide_eq_false (by decide +kernel)]; rfl)⟩
      exact ⟨_, v, rfl, seq_of h5, x, ax, by decide, fin (((o12.trans (Off.of s3)).trans (Off.of s4)).trans o5) d5 l5 (tri (px.1.keep (OffS.off o5 tS)) (el_sc ss) (el_sc sb)) (by simp) px.2⟩
    · refine ⟨by decide, New.intro fun u2 H4 n4 s4 h4 => ?_⟩
      refine ⟨t, 8, rfl, d2.same s4, by decide, by decide, fun v H5 va vb o5 d5 => ?_⟩
      have l5 : Live S H5 := (l2.same s4).off o5 d5
      have h5 := o5 _ _ (Ne.symm (d2.ne n4)) h4
      obtain ⟨x, ax, px⟩ : ∃ x, atI [V.int (0 - 2), V.int 1, V.int 3, V.int 8, V.non, V.bl false, V.str (Str.ofString "0"), V.int 10] v = some x ∧ El K S H5 x ∧ placeOk [.int c, x, .int 2] = false := by
        have : v = 0 ∨ v = 1 ∨ v = 2 ∨ v = 3 ∨ v = 4 ∨ v = 5 ∨ v = 6 ∨ v = 7 := by omega
        rcases this with rfl | rfl | rfl | rfl | rfl | rfl | rfl | rfl
        · exact ⟨_, rfl, (el_sc (smv_dec (by decide +kernel) (by decide +kernel) (by decide +kernel) rfl rfl)), okP_no (by decide +kernel)⟩
        · exact ⟨_, rfl, (el_sc (smv_dec (by decide +kernel) (by decide +kernel) (by decide +kernel) rfl rfl)), okP_no (by decide +kernel)⟩
        · exact ⟨_, rfl, (el_sc (smv_dec (by decide +kernel) (by decide +kernel) (by decide +kernel) rfl rfl)), okP_no (by decide +kernel)⟩
        · exact ⟨_, rfl, (el_sc (smv_dec (by decide +kernel) (by decide +kernel) (by decide +kernel) rfl rfl)), okP_no (by decide +kernel)⟩
        · exact ⟨_, rfl, (el_sc (smv_dec (by decide +kernel) (by decide +kernel) (by decide +kernel) rfl rfl)), rfl⟩
        · exact ⟨_, rfl, (el_sc (smv_dec (by decide +kernel) (by decide +kernel) (by decide +kernel) rfl rfl)), rfl⟩
        · exact ⟨_, rfl, (el_sc (smv_dec (by decide +kernel) (by decide +kernel) (by decide +kernel) rfl rfl)), rfl⟩
        · exact ⟨_, rfl, (el_sc (smv_dec (by decide +kernel) (by decide +kernel) (by decide +kernel) rfl rfl)), okP_no (by decide +kernel)⟩
      exact ⟨_, v, rfl, seq_of h5, x, ax, by decide, fin ((o12.trans (Off.of s4)).trans o5) d5 l5 (tri (el_sc sc) px.1 (el_sc s2')) (by simp) px.2⟩
    · refine ⟨by decide, New.intro fun u2 H4 n4 s4 h4 => ?_⟩
      refine ⟨t, 6, rfl, d2.same s4, by decide, by decide, fun v H5 va vb o5 d5 => ?_⟩
      have l5 : Live S H5 := (l2.same s4).off o5 d5
      have h5 := o5 _ _ (Ne.symm (d2.ne n4)) h4
      obtain ⟨x, ax, px⟩ : ∃ x, atI [V.int 2, V.int 8, V.int (0 - 8), V.int 1, V.non, V.bl false] v = some x ∧ El K S H5 x ∧ ∀ w : Int, 0 ≤ w → placeOk [.int c, x, .int (8 + 8 * w)] = false := by
        have : v = 0 ∨ v = 1 ∨ v = 2 ∨ v = 3 ∨ v = 4 ∨ v = 5 := by omega
        rcases this with rfl | rfl | rfl | rfl | rfl | rfl
        · exact ⟨_, rfl, (el_sc (smv_dec (by decide +kernel) (by decide +kernel) (by decide +kernel) rfl rfl)), fun w hw => okP_shift (by decide) hw⟩
        · exact ⟨_, rfl, (el_sc (smv_dec (by decide +kernel) (by decide +kernel) (by decide +kernel) rfl rfl)), fun w hw => okP_shift (by decide) hw⟩
        · exact ⟨_, rfl, (el_sc (smv_dec (by decide +kernel) (by decide +kernel) (by decide +kernel) rfl rfl)), fun w hw => okP_shift (by decide) hw⟩
        · exact ⟨_, rfl, (el_sc (smv_dec (by decide +kernel) (by decide +kernel) (by decide +kernel) rfl rfl)), fun w hw => okP_shift (by decide) hw⟩
        · exact ⟨_, rfl, (el_sc (smv_dec (by decide +kernel) (by decide +kernel) (by decide +kernel) rfl rfl)), fun w _ => rfl⟩
        · exact ⟨_, rfl, (el_sc (smv_dec (by decide +kernel) (by decide +kernel) (by decide +kernel) rfl rfl)), fun w _ => rfl⟩
      refine ⟨_, v, rfl, seq_of h5, x, ax, t, 64, rfl, d5, by decide, by decide, fun w H6 w0 w1 o6 d6 => ⟨w, rfl, .inl ⟨by decide, by decide⟩, by decide, ?_⟩⟩
      exact fin (((o12.trans (Off.of s4)).trans o5).trans o6) d6 (l5.off o6 d6) (tri (el_sc sc) (px.1.keep (OffS.off o6 tS)) (el_sc (smv_int (by omega) (by omega)))) (by simp) (px.2 w w0)
    · refine ⟨⟨by decide, by decide, by decide⟩, by decide, New.intro fun u2 H4 n4 s4 h4 => ?_⟩
      refine ⟨t, 11, rfl, d2.same s4, by decide, by decide, fun v H5 va vb o5 d5 => ?_⟩
      have l5 : Live S H5 := (l2.same s4).off o5 d5
      have h5 := o5 _ _ (Ne.symm (d2.ne n4)) h4
      obtain ⟨x, ax, px⟩ : ∃ x, atI [V.int 0, V.int 1, V.int 3, V.int 4, V.int 12, V.int 520, V.int (0 - 8), V.non, V.bl true, V.str (Str.ofString "8"), V.int (10 ^ Int.toNat 29)] v = some x ∧ El K S H5 x ∧ placeOk [.int c, .int 0, x] = false := by
        have : v = 0 ∨ v = 1 ∨ v = 2 ∨ v = 3 ∨ v = 4 ∨ v = 5 ∨ v = 6 ∨ v = 7 ∨ v = 8 ∨ v = 9 ∨ v = 10 := by omega
        rcases this with rfl | rfl | rfl | rfl | rfl | rfl | rfl | rfl | rfl | rfl | rfl
        · exact ⟨_, rfl, (el_sc (smv_dec (by decide +kernel) (by decide +kernel) (by decide +kernel) rfl rfl)), okP_no (by decide +kernel)⟩
        · exact ⟨_, rfl, (el_sc (smv_dec (by decide +kernel) (by decide +kernel) (by decide +kernel) rfl rfl)), okP_no (by decide +kernel)⟩
        · exact ⟨_, rfl, (el_sc (smv_dec (by decide +kernel) (by decide +kernel) (by decide +kernel) rfl rfl)), okP_no (by decide +kernel)⟩
        · exact ⟨_, rfl, (el_sc (smv_dec (by decide +kernel) (by decide +kernel) (by decide +kernel) rfl rfl)), okP_no (by decide +kernel)⟩
        · exact ⟨_, rfl, (el_sc (smv_dec (by decide +kernel) (by decide +kernel) (by decide +kernel) rfl rfl)), okP_no (by decide +kernel)⟩
        · exact ⟨_, rfl, (el_sc (smv_dec (by decide +kernel) (by decide +kernel) (by decide +kernel) rfl rfl)), okP_no (by decide +kernel)⟩
        · exact ⟨_, rfl, (el_sc (smv_dec (by decide +kernel) (by decide +kernel) (by decide +kernel) rfl rfl)), okP_no (by decide +kernel)⟩
        · exact ⟨_, rfl, (el_sc (smv_dec (by decide +kernel) (by decide +kernel) (by decide +kernel) rfl rfl)), rfl⟩
        · exact ⟨_, rfl, (el_sc (smv_dec (by decide +kernel) (by decide +kernel) (by decide +kernel) rfl rfl)), rfl⟩
        · exact ⟨_, rfl, (el_sc (smv_dec (by decide +kernel) (by decide +kernel) (by decide +kernel) rfl rfl)), rfl⟩
        · exact ⟨_, rfl, (el_sc (smv_dec (by decide +kernel) (by decide +kernel) (by decide +kernel) rfl rfl)), okP_no (by decide +kernel)⟩
      exact ⟨_, v, rfl, seq_of h5, x, ax, by decide, fin ((o12.trans (Off.of s4)).trans o5) d5 l5 (tri (el_sc sc) (el_sc s0) px.1) (by simp) px.2⟩
    · have mem3 : ∀ v ∈ [V.int c, V.int sh, V.int b], SmV v := fun v hv => by
        simp only [List.mem_cons, List.not_mem_nil, or_false] at hv
        rcases hv with rfl | rfl | rfl <;> assumption
      have mem2 : ∀ v ∈ [V.int c, V.int sh], SmV v := fun v hv => by
        simp only [List.mem_cons, List.not_mem_nil, or_false] at hv
        rcases hv with rfl | rfl <;> assumption
      have mem4 : ∀ v ∈ [V.int c, V.int sh, V.int b, V.int 0], SmV v := fun v hv => by
        simp only [List.mem_cons, List.not_mem_nil, or_false] at hv
        rcases hv with rfl | rfl | rfl | rfl <;> assumption
      refine ⟨by decide, New.intro fun u1 L1 m1 r1 q1 => ⟨by decide, New.intro fun u2 L2 m2 r2 q2 => ⟨by decide, New.intro fun u3 L3 m3 r3 q3 => ⟨by decide, New.intro fun u4 L4 m4 r4 q4 => ⟨by decide, New.intro fun u5 L5 m5 r5 q5 => ⟨by decide, New.intro fun u6 L6 m6 r6 q6 => ⟨by decide, New.intro fun u7 L7 m7 r7 q7 => ?_⟩⟩⟩⟩⟩⟩⟩
      have e1 := r1.trans r2
      have e2 := e1.trans r3
      have e3 := e2.trans r4
      have e4 := e3.trans r5
      have e5 := e4.trans r6
      have e6 := e5.trans r7
      have z1 := (r2.trans (r3.trans (r4.trans (r5.trans (r6.trans r7))))) _ _ q1
      have z2 := (r3.trans (r4.trans (r5.trans (r6.trans r7)))) _ _ q2
      have z3 := (r4.trans (r5.trans (r6.trans r7))) _ _ q3
      have z4 := (r5.trans (r6.trans r7)) _ _ q4
      have z5 := (r6.trans r7) _ _ q5
      have z6 := r7 _ _ q6
      have l7 := l2.same e6
      refine ⟨t, 5, rfl, d2.same e6, by decide, by decide, fun v H5 va vb o5 d5 => ?_⟩
      have h5 := o5 _ _ (Ne.symm ((d2.same e5).ne m7)) q7
      obtain ⟨x, ax, px⟩ : ∃ x, atI [V.ref u1, V.ref u2, V.ref u3, V.ref u4, V.ref u6] v = some x ∧ Bad K S L7 x := by
        have : v = 0 ∨ v = 1 ∨ v = 2 ∨ v = 3 ∨ v = 4 := by omega
        rcases this with rfl | rfl | rfl | rfl | rfl
        · exact ⟨_, rfl, bad_lst z1 (l2.fresh m1) (fun x hx => el_sc (mem3 x hx)) (by simp)⟩
        · exact ⟨_, rfl, bad_tup z2 ((l2.same r1).fresh m2) (fun x hx => el_sc (mem2 x hx)) (by simp) rfl⟩
        · exact ⟨_, rfl, bad_tup z3 ((l2.same e1).fresh m3) (fun x hx => el_sc (mem4 x hx)) (by simp) rfl⟩
        · exact ⟨_, rfl, bad_tup z4 ((l2.same e2).fresh m4) (fun x hx => (nomatch hx)) (by decide) rfl⟩
        · exact ⟨_, rfl, bad_tup z6 ((l2.same e4).fresh m6) (fun x hx => by rw [List.mem_singleton.mp hx]; exact el_tup z5 ((l2.same e3).fresh m5) mem3 (by simp)) (by simp) rfl⟩
      exact ⟨_, v, rfl, seq_of h5, x, ax, q x H5 ((o12.trans (Off.of e6)).trans o5) d5 (px.keep (OffS.off o5 tS))⟩
    · refine ⟨by decide, New.intro fun u1 L1 m1 r1 q1 => New.intro fun u2 L2 m2 r2 q2 => fun u3 m3 => ⟨upd_same, [(.inr "cell", .int 0)], rfl, by decide, by decide, ?_⟩⟩
      obtain ⟨kv, hm, f1, f2⟩ : ∃ kv : List (Key × V), mergeK [] [(Sum.inr (Str.ofString "cell"), V.int 0)] = kv ∧ kv.all (fun p => isPd p.2) = true ∧ okDt (.dict (kv.map fun p => (pd (kV p.1), pd p.2))) = true := ⟨_, rfl, by decide +kernel, by decide +kernel⟩
      rw [hm]
      have r3 : Same L2 (upd (upd L2 u3 (.dK [])) u3 (.dK kv)) := Same.mut (same_new m3) m3
      have q3 : upd (upd L2 u3 (.dK [])) u3 (.dK kv) u3 = some (.dK kv) := upd_same
      generalize upd (upd L2 u3 (.dK [])) u3 (.dK kv) = L3 at r3 q3
      refine New.intro fun u4 L4 m4 r4 q4 => ?_
      have e6 := (r1.trans r2).trans (r3.trans r4)
      refine ⟨t, 8, rfl, d2.same e6, by decide, by decide, fun v H5 va vb o5 d5 => ?_⟩
      have h5 := o5 _ _ (Ne.symm ((d2.same ((r1.trans r2).trans r3)).ne m4)) q4
      obtain ⟨x, ax, px⟩ : ∃ x, atI [V.non, V.bl true, V.int 7, V.str (Str.ofString "place"), V.ref u1, V.ref u2, V.ref u3, V.str (Str.ofString "")] v = some x ∧ Bad K S L4 x := by
        have : v = 0 ∨ v = 1 ∨ v = 2 ∨ v = 3 ∨ v = 4 ∨ v = 5 ∨ v = 6 ∨ v = 7 := by omega
        rcases this with rfl | rfl | rfl | rfl | rfl | rfl | rfl | rfl
        · exact ⟨_, rfl, bad_non⟩
        · exact ⟨_, rfl, bad_bl (by decide +kernel)⟩
        · exact ⟨_, rfl, bad_int (by decide +kernel)⟩
        · exact ⟨_, rfl, bad_str (by decide +kernel)⟩
        · exact ⟨_, rfl, bad_lst ((r2.trans (r3.trans r4)) _ _ q1) (l2.fresh m1) (fun x hx => (nomatch hx)) (by decide)⟩
        · exact ⟨_, rfl, bad_dk ((r3.trans r4) _ _ q2) ((l2.same r1).fresh m2) rfl (by decide +kernel)⟩
        · exact ⟨_, rfl, bad_dk (r4 _ _ q3) ((l2.same (r1.trans r2)).fresh m3) f1 f2⟩
        · exact ⟨_, rfl, bad_str (by decide +kernel)⟩
      exact ⟨_, v, rfl, seq_of h5, x, ax, q x H5 ((o12.trans (Off.of e6)).trans o5) d5 (px.keep (OffS.off o5 tS))⟩
theorem ok_doors {f C_Room : Addr} {fd : FuncData} (F : Fun K "_law_all_doors" "_law_all_doors" s_law_all_doors f fd) (z_range : mg "range" = none) (z_len : mg "len" = none) (D_law_draw : Dn P w K mg base CX0 1 "_law_draw" ["_law_state", "_law_many"] spDraw) (D_law_told : Dn P w K mg base CX0 6 "_law_told" ["_law_room", "_law_door", "_law_one", "_law_other"] (spTold K C_Room)) (D_law_same : DnG P w K mg base CX0 1 "_law_same" ["_law_told_here", "_law_thing"] (spSame K)) : FnOkG P w K mg base CX0 7 f fd ["_law_state", "_law_room", "_law_bad_here", "_law_good"] (spDoors K C_Room) := by
  refine Fun_okG F sc_law_all_doors (fun vs H Q E h => ?_) (fun cdv A outer s H vs Q E hr hA h => ?_)
  · obtain ⟨t, p, d, w, B, x, y, S, rfl, _⟩ := h
    rfl
  · obtain ⟨t, p, d, w, B, x, y, S, rfl, d0, hR, ndt, hw, tS, hb, hg, q⟩ := h
    refine ⟨_, (pss_cons (ps_set (i := 4) sc_law_all_doors.nd rfl (by first | exact Or.inl rfl | exact Or.inr rfl) (pe_cd D_law_draw (hr.mono (by decide)) (by rfl) pass0 (pa_cons (pv 0) (pa_cons pe_int pa_nil))))
      (pss_cons (ps_for PassesOwn.never rfl (pi_rangeL1 (by rfl) z_range (pa_cons pe_int pa_nil)) (pg_name (i := 5) sc_law_all_doors.nd rfl (by first | exact Or.inl rfl | exact Or.inr rfl)) (pss_cons (ps_set (i := 6) sc_law_all_doors.nd rfl (by first | exact Or.inl rfl | exact Or.inr rfl) (pe_op op_modN (pe_op op_add (pv 5) (pv 4)) pe_int))
      (pss_one (ps_if (pt_not (pt_val (pe_cdG D_law_same hA (hr.mono (by decide)) (by rfl) pass0 (pa_cons (pe_cd D_law_told (hr.mono (by decide)) (by rfl) pass0 (pa_cons (pv 1) (pa_cons (pv 6) (pa_cons (pv 2) (pa_cons (pv 3) pa_nil))))) (pa_cons (pv 2) pa_nil))))) (pss_one (ps_ret pe_bl)) pss_nil))))
      (pss_cons (ps_set (i := 7) sc_law_all_doors.nd rfl (by first | exact Or.inl rfl | exact Or.inr rfl) (pe_lst (pa_cons (pv 4) pa_nil)))
      (pss_cons (ps_set (i := 8) sc_law_all_doors.nd rfl (by first | exact Or.inl rfl | exact Or.inr rfl) (pe_cd D_law_told (hr.mono (by decide)) (by rfl) pass0 (pa_cons (pv 1) (pa_cons (pv 4) (pa_cons (pv 7) (pa_cons (pv 3) pa_nil))))))
      (pss_cons (ps_expr (pe_bmK (K := K) PySem.F.plainAttrs_list PySem.F.slot_list_append PySem.F.type_list_append mt_append (pv 7) (pa_cons (pv 2) pa_nil)))
      (pss_one (ps_ret (pe_and (pe_cdG D_law_same hA (hr.mono (by decide)) (by rfl) pass0 (pa_cons (pe_cd D_law_told (hr.mono (by decide)) (by rfl) pass0 (pa_cons (pv 1) (pa_cons pe_int (pa_cons (pv 3) (pa_cons (pv 2) pa_nil))))) (pa_cons (pv 2) pa_nil))) (pe_and (pe_cmpR (op_eqVK hr.units (K := K)) (pv 8) (pe_lst (pa_cons pe_str (pa_cons (pv 7) pa_nil))) (nomark _)) (pe_one (pe_cmpR op_eq (pe_callB (call_lenR (K := K)) (by rfl) z_len (by decide +kernel) (pa_cons (pe_ix (ix_listK (K := K)) (pv 8) pe_int (fun _ _ => rfl)) pa_nil)) pe_int (nomark _)))))))))))), ?_⟩
    walk_at "rd"
    refine ⟨t, 5, rfl, d0, by decide, by decide, fun k0 H1 ka kb o1 d1 => ?_⟩
    have hR1 := hR.off ndt d0 o1
    have hb1 := hb.keep (OffS.off o1 tS)
    have hg1 := hg.off d0 o1
    refine Loop.range (fun i σ HA => ∃ y1 y2, σ = [some (.ref t), some (.ref p), some x, some y, some (.int k0), y1, y2, none, none] ∧ Same H1 HA) ⟨none, none, rfl, Same.refl _⟩ ?_ ?_
    · rintro i σ HA hi ⟨y1, y2, rfl, sA⟩
      walk_at "rd"
      have hbA := hb1.keep (OffS.same sA)
      have door : (0 + (i : Int) + k0).fmod 5 = 0 ∨ (0 + (i : Int) + k0).fmod 5 = 1 ∨ (0 + (i : Int) + k0).fmod 5 = 2 ∨ (0 + (i : Int) + k0).fmod 5 = 3 ∨ (0 + (i : Int) + k0).fmod 5 = 4 := by
        have m1 := Int.fmod_nonneg_of_pos (0 + (i : Int) + k0) (show (0 : Int) < 5 by decide)
        have m2 := Int.fmod_lt_of_pos (0 + (i : Int) + k0) (show (0 : Int) < 5 by decide)
        omega
      refine ⟨by decide, p, d, w, B, _, x, y, rfl, hR1.same sA, hw, .inl ⟨x, .first door hbA.2.now, fun u HB nu sB hu => ?_⟩⟩
      refine ⟨u, x, rfl, seq_of hu, (hbA.1.keep (OffS.same sB)).nil, fun HC sC => ⟨true, rfl, iteN (by decide) (sA.trans (sB.trans sC))⟩⟩
    · rintro σ HA ⟨y1, y2, rfl, sA⟩
      walk_at "rd"
      have door : k0 = 0 ∨ k0 = 1 ∨ k0 = 2 ∨ k0 = 3 ∨ k0 = 4 := by omega
      refine ⟨by decide, New.intro fun v HB nv sB hv => ?_⟩
      refine ⟨p, d, w, B, k0, _, y, rfl, (hR1.same sA).same sB, hw, .inl ⟨_, .first door (.inl ⟨"list", .lst (seq_of hv), by decide, rfl⟩), fun u HC nu sC hu => ?_⟩⟩
      have hvC := sC _ _ hv
      refine ⟨tyv_list (seq_of hvC), _, hvC, by rw [List.length_singleton]; exact small1000 (by decide), Upd.intro fun HD oD hD => ?_⟩
      have nvA : H1 v = none := sA.free nv
      have sD : Same H1 HD := Same.off (sA.trans (sB.trans sC)) nvA oD
      have nuv : u ≠ v := fun e => by
        subst e
        rw [hv] at nu
        cases nu
      have huD := oD _ _ nuv hu
      have hgD := hg1.same sD
      have hbD := hb1.keep (OffS.same sD)
      have hgP : PlaceTh K HD y true := by
        obtain ⟨a, c, s, b, rfl, h, o, l⟩ := hgD
        have := placeTh_ints (K := K) (seqT_of h)
        rw [o] at this
        exact this
      refine ⟨p, d, w, B, 2, y, x, rfl, hR1.same sD, hw, .inl ⟨x, .second hgP hbD.2.now, fun u2 HE n2 sE h2 => ?_⟩⟩
      refine ⟨u2, x, rfl, seq_of h2, (hbD.1.keep (OffS.same sE)).nil, fun HF sF => ⟨true, rfl, iteP rfl ⟨by decide, New.intro fun u3 HG n3 sG h3 => ?_⟩⟩⟩
      have sDG := sE.trans (sF.trans sG)
      have huG := sDG _ _ huD
      refine eqV_lists (seq_of huG) (seq_of h3) rfl ⟨true, rfl, iteP rfl ⟨u, rfl, _, seq_of huG, _, atI_nat (j := 1) rfl, v, rfl, _, .inl (seq_of (sDG _ _ hD)), ?_⟩⟩
      refine q HG (fun b o hb' h => sDG _ _ (sD _ _ (o1 b o hb' h))) ?_
      obtain ⟨r, n, c, h⟩ := d1
      exact ⟨r, n, c, sDG _ _ (sD _ _ h)⟩
theorem num_bit (B : Nat → Bool) : ∀ (m s j : Nat), j < m → numB B s m / 2 ^ j % 2 = bitI B (s + j)
  | m + 1, s, 0, _ => by
    have h := bitI_or B s
    show (bitI B s + 2 * numB B (s + 1) m) / 2 ^ 0 % 2 = _
    rw [Int.pow_zero, Int.ediv_one, show s + 0 = s from rfl]
    omega
  | m + 1, s, j + 1, hj => by
    have h := bitI_or B s
    show (bitI B s + 2 * numB B (s + 1) m) / 2 ^ (j + 1) % 2 = _
    rw [Int.pow_succ, Int.mul_comm (2 ^ j) 2, ← Int.ediv_ediv_of_nonneg (by decide), show (bitI B s + 2 * numB B (s + 1) m) / 2 = numB B (s + 1) m by omega, num_bit B m (s + 1) j (by omega), show s + 1 + j = s + (j + 1) by omega]
theorem put_same (B : Nat → Bool) (s b : Nat) : putB B s b (numB B s b) = B := by
  funext j
  unfold putB
  by_cases h : s ≤ j ∧ j < s + b
  · rw [if_pos h, num_bit B b s (j - s) (by omega), show s + (j - s) = j by omega]
    unfold bitI
    cases B j <;> rfl
  · rw [if_neg h]
theorem tg_place {K : PySem.W.Frag} {S : List Addr} {H : Hp} {a : Addr} {c s b : Nat} (h : H a = some (.tup [.int (c : Int), .int (s : Int), .int (b : Int)])) (n : a ∉ S) (hc : c < 10 ^ 20) (hs : s < 10 ^ 20) (hb : b < 10 ^ 20) : TgS K S H (.ref a) := by
  have sm : ∀ x ∈ [V.int (c : Int), .int (s : Int), .int (b : Int)], SmV x := fun x hx => by
    simp only [List.mem_cons, List.not_mem_nil, or_false] at hx
    rcases hx with rfl | rfl | rfl <;> exact smv_int (by omega) (by omega)
  obtain ⟨h1, h2, h3⟩ := sm_all_of sm
  exact ts_tup h n h1 h3 ((sm_tup h2 (by simp)).ok (by decide) (by decide))
theorem ok_past {f C_Room C_NoPlace : Addr} {fd : FuncData} (F : Fun K "_law_past" "_law_past" s_law_past f fd) (z_max : mg "max" = none) (z_min : mg "min" = none) (D_law_draw : Dn P w K mg base CX0 1 "_law_draw" ["_law_state", "_law_many"] spDraw) (D_law_told : Dn P w K mg base CX0 6 "_law_told" ["_law_room", "_law_door", "_law_one", "_law_other"] (spTold K C_Room)) (D_law_same : DnG P w K mg base CX0 1 "_law_same" ["_law_told_here", "_law_thing"] (spSame K)) (N_Room_taken : Nn P w K mg base (L2.CX P w) 5 C_Room "taken" ["self", "place"] (spTaken K C_Room C_NoPlace)) (N_Room_left : Nn P w K mg base (L2.CX P w) 5 C_Room "left" ["self", "place", "number"] (spLeft K C_Room C_NoPlace)) : FnOkG P w K mg base CX0 7 f fd ["_law_state", "_law_room", "_law_wide"] (spPast K C_Room) := by
  refine Fun_okG F sc_law_past (fun vs H Q E h => ?_) (fun cdv A outer s H vs Q E hr hA h => ?_)
  · obtain ⟨t, p, d, w, B, rfl, _⟩ := h
    rfl
  · obtain ⟨t, p, d, w, B, rfl, d0, hR, ndt, hw1, hw2, q⟩ := h
    refine ⟨_, (pss_cons (ps_set (i := 3) sc_law_past.nd rfl (by first | exact Or.inl rfl | exact Or.inr rfl) (pe_op op_add pe_int (pe_cd D_law_draw (hr.mono (by decide)) (by rfl) pass0 (pa_cons (pv 0) (pa_cons pe_int pa_nil)))))
      (pss_cons (ps_set (i := 4) sc_law_past.nd rfl (by first | exact Or.inl rfl | exact Or.inr rfl) (pe_lst (pa_cons (pe_tup (pa_cons (pv 2) (pa_cons pe_int (pa_cons pe_int pa_nil)))) (pa_cons (pe_tup (pa_cons (pv 2) (pa_cons pe_int (pa_cons pe_int pa_nil)))) (pa_cons (pe_tup (pa_cons (pv 2) (pa_cons pe_int (pa_cons pe_int pa_nil)))) (pa_cons (pe_tup (pa_cons (pe_op op_sub (pv 2) pe_int) (pa_cons pe_int (pa_cons pe_int pa_nil)))) pa_nil))))))
      (pss_cons (ps_expr (pe_bmK (K := K) PySem.F.plainAttrs_list PySem.F.slot_list_append PySem.F.type_list_append mt_append (pv 4) (pa_cons (pe_tup (pa_cons (pe_callB (call_max2R rfl) (by rfl) z_max (by decide +kernel) (pa_cons pe_int (pa_cons (pe_op op_add (pe_op op_sub (pv 2) (pv 3)) pe_int) pa_nil))) (pa_cons pe_int (pa_cons (pe_op op_mul pe_int (pv 3)) pa_nil)))) pa_nil)))
      (pss_cons (ps_for PassesOwn.never rfl (pi_listK (pv 4) (K := K)) (pg_name (i := 5) sc_law_past.nd rfl (by first | exact Or.inl rfl | exact Or.inr rfl)) (pss_cons (ps_set (i := 6) sc_law_past.nd rfl (by first | exact Or.inl rfl | exact Or.inr rfl) (pe_cmpR op_gt (pe_op op_add (pe_ix (ix_tupK (K := K)) (pv 5) pe_int (fun _ _ => rfl)) (pe_op op_fdivW (pe_op op_add (pe_ix (ix_tupK (K := K)) (pv 5) pe_int (fun _ _ => rfl)) pe_int) pe_int)) (pv 2) (nomark _)))
      (pss_cons (ps_for PassesOwn.never rfl (pi_listK (pe_lst (pa_cons pe_int (pa_cons pe_int pa_nil))) (K := K)) (pg_name (i := 7) sc_law_past.nd rfl (by first | exact Or.inl rfl | exact Or.inr rfl)) (pss_one (ps_if (PW.pt (pw_and (pt_val (pv 6)) (pw_and1 (pt_not (pt_val (pe_cdG D_law_same hA (hr.mono (by decide)) (by rfl) pass0 (pa_cons (pe_cd D_law_told (hr.mono (by decide)) (by rfl) pass0 (pa_cons (pv 1) (pa_cons (pv 7) (pa_cons (pv 5) (pa_cons (pv 5) pa_nil))))) (pa_cons (pv 5) pa_nil)))))))) (pss_one (ps_ret pe_bl)) pss_nil)))
      (pss_one (ps_for PassesOwn.never rfl (pi_listK (pe_lst (pa_cons pe_int (pa_cons pe_int pa_nil))) (K := K)) (pg_name (i := 7) sc_law_past.nd rfl (by first | exact Or.inl rfl | exact Or.inr rfl)) (pss_one (ps_if (pt_cmpR (op_neDK hr.units (K := K)) (pe_cd D_law_told (hr.mono (by decide)) (by rfl) pass0 (pa_cons (pv 1) (pa_cons (pv 7) (pa_cons (pv 5) (pa_cons (pv 5) pa_nil))))) (pe_lst (pa_cons pe_str pa_nil)) (nomark _)) (pss_one (ps_ret pe_bl)) pss_nil)))))))
      (pss_cons (ps_set (i := 8) sc_law_past.nd rfl (by first | exact Or.inl rfl | exact Or.inr rfl) (pe_tup (pa_cons (pe_callB (call_max2R rfl) (by rfl) z_max (by decide +kernel) (pa_cons pe_int (pa_cons (pe_op op_sub (pv 2) (pv 3)) pa_nil))) (pa_cons pe_int (pa_cons (pe_op op_mul pe_int (pe_callB (call_min2R rfl) (by rfl) z_min (by decide +kernel) (pa_cons (pv 3) (pa_cons (pv 2) pa_nil)))) pa_nil)))))
      (pss_cons (ps_set (i := 9) sc_law_past.nd rfl (by first | exact Or.inl rfl | exact Or.inr rfl) (pe_md (pv 1) N_Room_taken (hr.mono (by decide)) passF (pa_cons (pv 8) pa_nil)))
      (pss_cons (ps_expr (pe_md (pv 1) N_Room_left (hr.mono (by decide)) passF (pa_cons (pv 8) (pa_cons (pv 9) pa_nil))))
      (pss_one (ps_ret (pe_and (pe_cmpR op_eq (pe_md (pv 1) N_Room_taken (hr.mono (by decide)) passF (pa_cons (pv 8) pa_nil)) (pv 9) (nomark _)) (pe_one (pe_cmpR (op_eqDK hr.units (K := K)) (pe_cd D_law_told (hr.mono (by decide)) (by rfl) pass0 (pa_cons (pv 1) (pa_cons pe_int (pa_cons (pe_tup (pa_cons (pe_op op_sub (pv 2) pe_int) (pa_cons pe_int (pa_cons pe_int pa_nil)))) (pa_cons pe_non pa_nil))))) (pe_lst (pa_cons pe_str pa_nil)) (nomark _))))))))))))), ?_⟩
    walk_at "rd"
    refine ⟨t, 64, rfl, d0, by decide, by decide, fun m0 H1 ma mb o1 d1 => ?_⟩
    obtain ⟨m, rfl, m1, m2⟩ : ∃ m : Nat, m0 = (m : Int) - 1 ∧ 1 ≤ m ∧ m ≤ 64 := ⟨(m0 + 1).toNat, by omega, by omega, by omega⟩
    obtain ⟨u, rfl⟩ : ∃ u, w = u + 1 := ⟨w - 1, by omega⟩
    obtain ⟨c6, b6, e6, g6⟩ : ∃ c6 : Nat, c6 ≤ 10000 ∧ (if ((u + 1 : Nat) : Int) - (1 + ((m : Int) - 1)) + 1 > 0 then ((u + 1 : Nat) : Int) - (1 + ((m : Int) - 1)) + 1 else 0) = (c6 : Int) ∧ u + 1 < c6 + m := by
      by_cases g : ((u + 1 : Nat) : Int) - (1 + ((m : Int) - 1)) + 1 > 0
      · refine ⟨u + 2 - m, by omega, ?_, by omega⟩
        rw [if_pos g]
        omega
      · refine ⟨0, by omega, ?_, by omega⟩
        rw [if_neg g]
        rfl
    have em : 1 + ((m : Int) - 1) = (m : Int) := by omega
    refine ⟨_, rfl, by decide, New.intro fun q1 A1 n1 s1 h1 => ⟨by decide, New.intro fun q2 A2 n2 s2 h2 => ⟨by decide, New.intro fun q3 A3 n3 s3 h3 => ⟨by decide, New.intro fun q4 A4 n4 s4 h4 => ⟨by decide, New.intro fun l A5 n5 s5 h5 => ⟨tyv_list (seq_of h5), .inl ⟨by decide, by decide⟩, by decide, New.intro fun q6 A6 n6 s6 h6 => ?_⟩⟩⟩⟩⟩⟩
    refine ⟨_, s6 _ _ h5, small1000 (by simp), Upd.intro fun A7 o7 h7 => ?_⟩
    rw [e6, em] at h6
    rw [em]
    have S56 := s1.trans (s2.trans (s3.trans (s4.trans (s5.trans s6))))
    have nl1 : H1 l = none := (s1.trans (s2.trans (s3.trans s4))).free n5
    have S17 : Same H1 A7 := Same.off S56 nl1 o7
    have hR7 := (hR.off ndt d0 o1).same S17
    have spots : ∀ (i : Nat) (x : V), ([V.ref q1, V.ref q2, V.ref q3, V.ref q4] ++ [V.ref q6])[i]? = some x → ∃ (a : Addr) (c s b : Nat), x = .ref a ∧ A7 a = some (.tup [.int (c : Int), .int (s : Int), .int (b : Int)]) ∧ okP c s b = true ∧ ((u + 1 : Nat) : Int) ≤ lastC c s b ∧ ((u + 1 : Nat) : Int) < (c : Int) + ((b : Int) + 7) / 8 ∧ c ≤ 10000 := by
      intro i x hx
      have keep : ∀ a o, A6 a = some o → a ≠ l → A7 a = some o := fun a o h n => o7 _ _ n h
      have ne : ∀ {a : Addr} {xs : List V}, A6 a = some (.tup xs) → a ≠ l := fun h e => by
        subst e
        rw [s6 _ _ h5] at h
        cases h
      have g1 := (s2.trans (s3.trans (s4.trans (s5.trans s6)))) _ _ h1
      have g2 := (s3.trans (s4.trans (s5.trans s6))) _ _ h2
      have g3 := (s4.trans (s5.trans s6)) _ _ h3
      have g4 := (s5.trans s6) _ _ h4
      match i, hx with
      | 0, hx => cases hx; exact ⟨q1, u + 1, 0, 2, rfl, keep _ _ g1 (ne g1), okP_tag (k := 0) (by omega) (by decide) (by decide), by unfold lastC; omega, by omega, by omega⟩
      | 1, hx => cases hx; exact ⟨q2, u + 1, 6, 2, rfl, keep _ _ g2 (ne g2), okP_tag (k := 3) (by omega) (by decide) (by decide), by unfold lastC; omega, by omega, by omega⟩
      | 2, hx => cases hx; exact ⟨q3, u + 1, 0, 8, rfl, keep _ _ g3 (ne g3), okP_whole (m := 1) (by omega) (by decide) (by decide), by unfold lastC; omega, by omega, by omega⟩
      | 3, hx =>
        cases hx
        refine ⟨q4, u, 0, 16, rfl, ?_, okP_whole (m := 2) (by omega) (by decide) (by decide), by unfold lastC; omega, by omega, by omega⟩
        have := keep _ _ g4 (ne g4)
        rw [show (((u + 1 : Nat) : Int) - 1) = (u : Int) by omega] at this
        exact this
      | 4, hx =>
        cases hx
        refine ⟨q6, c6, 0, 8 * m, rfl, ?_, ?_, by unfold lastC; omega, by omega, by omega⟩
        · have := keep _ _ h6 (ne h6)
          rw [show (8 * (m : Int)) = ((8 * m : Nat) : Int) by omega] at this
          exact this
        · have := okP_whole (c := (c6 : Int)) (m := (m : Int)) (by omega) (by omega) (by omega)
          rw [show (8 * (m : Int)) = ((8 * m : Nat) : Int) by omega] at this
          exact this
    refine ⟨⟨_, seq_of h7⟩, Loop.list (xs := [V.ref q1, V.ref q2, V.ref q3, V.ref q4] ++ [V.ref q6]) (fun i σ HA => ∃ y5 y6 y7, σ = [some (.ref t), some (.ref p), some (.int ((u + 1 : Nat) : Int)), some (.int (m : Int)), some (.ref l), y5, y6, y7, none, none] ∧ Same A7 HA) ⟨none, none, none, rfl, Same.refl _⟩ ?_ ?_ ?_⟩
    · rintro i σ HA _ ⟨y5, y6, y7, rfl, sA⟩
      exact sA.seq (seq_of h7)
    · rintro i x σ HA hx ⟨y5, y6, y7, rfl, sA⟩
      obtain ⟨a, c, s, b, rfl, ha, po, pl, pc, cb⟩ := spots i x hx
      walk_at "rd"
      have haA := sA _ _ ha
      have hb := okP_last po
      refine ⟨_, seqT_of haA, _, rfl, _, seqT_of haA, _, rfl, _, rfl, ⟨by decide, by decide⟩, _, rfl, by decide, New.intro fun v HB nv sB hv => ?_⟩
      rw [decide_eq_true pc]
      refine ⟨⟨_, seq_of hv⟩, Loop.list (xs := [V.int 3, V.int 4]) (fun i σ HC => ∃ y7, σ = [some (.ref t), some (.ref p), some (.int ((u + 1 : Nat) : Int)), some (.int (m : Int)), some (.ref l), some (.ref a), some (.bl true), y7, none, none] ∧ Same HB HC) ⟨_, rfl, Same.refl _⟩ ?_ ?_ ?_⟩
      · rintro i σ HC _ ⟨y7, rfl, sC⟩
        exact sC.seq (seq_of hv)
      · rintro i z σ HC hz ⟨y7, rfl, sC⟩
        obtain ⟨k, rfl, hk⟩ : ∃ k : Int, z = .int k ∧ (k = 3 ∨ k = 4) := by
          have := List.mem_of_getElem? hz
          simp only [List.mem_cons, List.not_mem_nil, or_false] at this
          rcases this with rfl | rfl
          · exact ⟨3, rfl, .inl rfl⟩
          · exact ⟨4, rfl, .inr rfl⟩
        walk_at "rd"
        have sAC := sA.trans (sB.trans sC)
        have haC := sAC _ _ ha
        refine ⟨p, d, u + 1, B, k, _, _, rfl, hR7.same sAC, hw2, .inl ⟨_, .past hk (.inr ⟨a, c, s, b, rfl, seqT_of haC, po, (decide_eq_false (by omega)).symm⟩), fun u2 HD n2 sD h2 => ?_⟩⟩
        refine ⟨u2, _, rfl, seq_of h2, tg_place (sD _ _ haC) (by simp) (by omega) (by omega) (by omega), fun HE sE => ⟨true, rfl, iteN (by decide) ?_⟩⟩
        exact sC.trans (sD.trans sE)
      · rintro σ HC ⟨y7, rfl, sC⟩
        walk_at "rd"
        refine ⟨by decide, New.intro fun v2 HD n2 sD h2 => ?_⟩
        refine ⟨⟨_, seq_of h2⟩, Loop.list (xs := [V.int 0, V.int 1]) (fun i σ HE => ∃ y7, σ = [some (.ref t), some (.ref p), some (.int ((u + 1 : Nat) : Int)), some (.int (m : Int)), some (.ref l), some (.ref a), some (.bl true), y7, none, none] ∧ Same HD HE) ⟨_, rfl, Same.refl _⟩ ?_ ?_ ?_⟩
        · rintro i σ HE _ ⟨y7, rfl, sE⟩
          exact sE.seq (seq_of h2)
        · rintro i z σ HE hz ⟨y7, rfl, sE⟩
          obtain ⟨k, rfl, hk⟩ : ∃ k : Int, z = .int k ∧ (k = 0 ∨ k = 1) := by
            have := List.mem_of_getElem? hz
            simp only [List.mem_cons, List.not_mem_nil, or_false] at this
            rcases this with rfl | rfl
            · exact ⟨0, rfl, .inl rfl⟩
            · exact ⟨1, rfl, .inr rfl⟩
          walk_at "rd"
          have sAE := sA.trans (sB.trans (sC.trans (sD.trans sE)))
          have haE := sAE _ _ ha
          refine ⟨p, d, u + 1, B, k, _, _, rfl, hR7.same sAE, hw2, .inr ⟨.at k a c s b (hk.elim .inl (fun h => .inr (.inl h))) (seqT_of haE) po, fun u2 HF n2 sF h2 => ?_⟩⟩
          refine ⟨by decide, New.intro fun u3 HG n3 sG h3 => ne_lst (seq_of (sG _ _ h2)) (seq_of h3) (by decide +kernel) ?_⟩
          exact ⟨false, rfl, iteN (by decide) (sE.trans (sF.trans sG))⟩
        · rintro σ HE ⟨y7, rfl, sE⟩
          walk_at "rd"
          exact sA.trans (sB.trans (sC.trans (sD.trans sE)))
    · rintro σ HA ⟨y5, y6, y7, rfl, sA⟩
      walk_at "rd"
      obtain ⟨n, en, n1, n2, n3, n4⟩ : ∃ n : Nat, (if ((u + 1 : Nat) : Int) < (m : Int) then ((u + 1 : Nat) : Int) else (m : Int)) = (n : Int) ∧ 1 ≤ n ∧ n ≤ 64 ∧ n ≤ u + 1 ∧ n ≤ m := by
        by_cases g : ((u + 1 : Nat) : Int) < (m : Int)
        · exact ⟨u + 1, by rw [if_pos g], by omega, by omega, by omega, by omega⟩
        · exact ⟨m, by rw [if_neg g], by omega, by omega, by omega, by omega⟩
      obtain ⟨c, ec, c1⟩ : ∃ c : Nat, (if ((u + 1 : Nat) : Int) - (m : Int) > 0 then ((u + 1 : Nat) : Int) - (m : Int) else 0) = (c : Int) ∧ c + n ≤ u + 1 := by
        by_cases g : ((u + 1 : Nat) : Int) - (m : Int) > 0
        · exact ⟨u + 1 - m, by rw [if_pos g]; omega, by omega⟩
        · exact ⟨0, by rw [if_neg g]; rfl, by omega⟩
      rw [en, ec, show (8 * (n : Int)) = ((8 * n : Nat) : Int) by omega]
      have po : okP (c : Int) ((0 : Nat) : Int) ((8 * n : Nat) : Int) = true := by
        have := okP_whole (c := (c : Int)) (m := (n : Int)) (by omega) (by omega) (by omega)
        rw [show (8 * (n : Int)) = ((8 * n : Nat) : Int) by omega] at this
        exact this
      have lc : lastC (c : Int) ((0 : Nat) : Int) ((8 * n : Nat) : Int) < ((u + 1 : Nat) : Int) := by
        unfold lastC
        omega
      refine ⟨.inl ⟨by decide, by decide⟩, by decide, New.intro fun v HB nv sB hv => ?_⟩
      have hRB := (hR7.same sA).same sB
      obtain ⟨⟨dx, hp⟩, hd⟩ := id hRB
      refine ⟨_, _, hp, rf_taken, p, d, u + 1, B, _, rfl, hRB, hw2, .inl ⟨v, c, 0, 8 * n, rfl, seqT_of hv, po, lc, fun HC sC => ?_⟩⟩
      have hRC := hRB.same sC
      refine ⟨_, _, sC _ _ hp, rf_left, p, d, u + 1, B, _, _, rfl, hRC, hw2, .inl ⟨v, c, 0, 8 * n, rfl, seqT_of (sC _ _ hv), po, lc, fun HD oD hRD => ?_⟩⟩
      rw [put_same] at hRD
      have nvd : v ≠ d := fun e => by
        subst e
        rw [hv] at hd
        cases hd
      have hvD := oD _ _ nvd (sC _ _ hv)
      obtain ⟨⟨dx2, hp2⟩, hd2⟩ := id hRD
      refine ⟨_, _, hp2, rf_taken, p, d, u + 1, B, _, rfl, hRD, hw2, .inl ⟨v, c, 0, 8 * n, rfl, seqT_of hvD, po, lc, fun HE sE => ⟨rfl, iteP rfl ⟨by decide, New.intro fun v2 HF n2 sF h2 => ?_⟩⟩⟩⟩
      rw [show (((u + 1 : Nat) : Int) - 1) = (u : Int) by omega] at h2
      have hRF := (hRD.same sE).same sF
      refine ⟨p, d, u + 1, B, 3, _, _, rfl, hRF, hw2, .inr ⟨.at 3 v2 u 6 2 (.inr (.inr ⟨rfl, by unfold lastC; omega⟩)) (seqT_of h2) (okP_tag (k := 3) (by omega) (by decide) (by decide)), fun u2 HG n2 sG h2 => ?_⟩⟩
      refine ⟨by decide, New.intro fun u3 HI n3 sI h3 => eq_lst (seq_of (sI _ _ h2)) (seq_of h3) (by decide +kernel) ?_⟩
      have sDI := sE.trans (sF.trans (sG.trans sI))
      have t1 : t ∈ [t, d] := List.mem_cons_self
      have t2 : d ∈ [t, d] := List.mem_cons_of_mem _ List.mem_cons_self
      have s1C := S17.trans (sA.trans (sB.trans sC))
      have dC := d1.same s1C
      refine q HI (((OffS.off o1 t1).trans (OffS.same s1C)).trans ((OffS.off oD t2).trans (OffS.same sDI))) ?_ (((hRF.same sG).same sI))
      obtain ⟨r, k, z, h⟩ := dC
      exact ⟨r, k, z, sDI _ _ (oD _ _ (Ne.symm ndt) h)⟩
theorem ok_noRoom {f C_Room C_NoRoom C_NoPlace : Addr} {fd : FuncData} (F : Fun K "_law_no_room" "_law_no_room" s_law_no_room f fd) (z_repr : mg "repr" = none) (z_isinstance : mg "isinstance" = none) (G_NoRoom : mg "NoRoom" = some (.ref C_NoRoom)) (G_NoPlace : mg "NoPlace" = some (.ref C_NoPlace)) (Y_NoRoom : XfC K C_NoRoom) (B_NoRoom_found : PySem.W.findIn K (.ref C_NoRoom) "found" = some none) (E_NoRoom_NoRoom : PySem.W.exmOne K (.ref C_NoRoom) (.ref C_NoRoom) = some true) (I_NoRoom : ExcC K C_NoRoom) (Q_NoRoom_NoPlace : PySem.W.kitOne K (.ref C_NoRoom) (.ref C_NoPlace) = some false) (M_Room : Mn P w K mg base (L2.CX P w) 3 C_Room "Room" ["self", "wide"] (spRInit K C_Room C_NoRoom)) : FnOkG P w K mg base CX0 5 f fd ["_law_wide"] (spNoRoom K) := by
  refine Fun_okG F sc_law_no_room (fun vs H Q E h => ?_) (fun cdv A outer s H vs Q E hr hA h => ?_)
  · obtain ⟨x, T, rfl, _⟩ := h
    rfl
  · obtain ⟨x, T, rfl, ht, hi, hg, he, q⟩ := h
    refine ⟨_, (pss_cons (ps_set (i := 1) sc_law_no_room.nd rfl (by first | exact Or.inl rfl | exact Or.inr rfl) pe_bl)
      (pss_cons (ps_try_as (i := 2) rfl rfl sc_law_no_room.nd rfl rfl ⟨rfl, by decide, .inl G_NoRoom⟩ takes0 (fun W pn xe tk po => (pss_one (ps_expr (pe_mkS M_Room (hr.mono (by decide)) (by rfl) (fun σ => passAt tk σ) (pa_cons (pv 0) pa_nil))))) (fun a oe cls d pn hz hf => (pss_one (ps_set (i := 1) sc_law_no_room.nd rfl (by first | exact Or.inl rfl | exact Or.inr rfl) (pe_and (pe_cmpR (op_eqS hr.units (K := K)) (pe_xfA hz hf (pv 2) (K := K)) (pv 0) (nomark _)) (pe_and (pe_cmpR op_eq (pe_callB (call_repr hA hr.units (K := K)) (by rfl) z_repr (by decide +kernel) (pa_cons (pe_xfA hz hf (pv 2) (K := K)) pa_nil)) (pe_callB (call_repr hA hr.units (K := K)) (by rfl) z_repr (by decide +kernel) (pa_cons (pv 0) pa_nil)) (nomark _)) (pe_one (pe_not (pe_callB (call_isX hz hf (K := K)) (by rfl) z_isinstance (by decide +kernel) (pa_cons (pv 2) (pa_cons (pe_gcl (by rfl) G_NoPlace) pa_nil)))))))))))
      (pss_one (ps_ret (pv 1))))), ?_⟩
    walk_at "rd"
    refine Made.intro fun r dx H1 nr s1 h1 => ?_
    refine ⟨r, dx, x, T, rfl, ht.same s1, h1, fun w ew w1 w2 => ?_, fun _ => ?_⟩
    · subst ew
      exfalso
      have e : isIn (.int (w : Int)) 1 8192 = true := by
        show (decide _ && decide _) = true
        rw [decide_eq_true (by omega), decide_eq_true (by omega)]
        rfl
      rw [e] at hi
      cases hi
    · intro xd H3 nx s3 h3
      walk_at "rd"
      refine ⟨true, E_NoRoom_NoRoom, fun _ a na => ⟨_, rfl, Y_NoRoom, B_NoRoom_found, _, h3, _, lk0, rfl, ?_, ?_⟩, fun h => by cases h⟩
      · have s03 := s1.trans s3
        rcases he with h | ⟨a, xs, e, h⟩ | ⟨a, e, h⟩
        · exact .inl h
        · refine .inr (.inl ⟨a, e, xs, ?_⟩)
          rcases h with h | h
          · exact .inl (s03.seq h)
          · exact .inr (Same.seqT s03 h)
        · exact .inr (.inr ⟨a, e, _, s03 _ _ h, fun p hp => (nomatch hp)⟩)
      · obtain ⟨T2, dt, hh, c1, c2, c3⟩ := hg.keep (OffS.same (s1.trans s3))
        have sh := (hh H3 OffS.refl).2
        exact ⟨_, rfl, Y_NoRoom, B_NoRoom_found, _, h3, _, lk0, dt, sh, c1, c2, c3, dt, sh, c1, c2, c3, iteP rfl ⟨_, rfl, I_NoRoom, ⟨_, h3⟩, _, .own _, _, Q_NoRoom_NoPlace, q H3 (s1.trans s3)⟩⟩
theorem ok_law {f C_Room C_NoRoom C_NoPlace : Addr} {fd : FuncData} (F : Fun K "law" "law" s_law f fd) (z_len : mg "len" = none) (z_max : mg "max" = none) (z_min : mg "min" = none) (z_range : mg "range" = none) (K_Room : Cls K C_Room) (A_Room_wide : NoAttr K C_Room "wide")
    (D_law_cell : Dn P w K mg base CX0 1 "_law_cell" ["_law_script", "_law_k"] (spCell K)) (D_law_begun : Dn P w K mg base CX0 1 "_law_begun" ["_law_cell_here"] spBegun) (D_law_draw : Dn P w K mg base CX0 1 "_law_draw" ["_law_state", "_law_many"] spDraw) (D_law_place : Dn P w K mg base CX0 2 "_law_place" ["_law_state", "_law_wide"] spPlace) (D_law_bad : Dn P w K mg base CX0 3 "_law_bad" ["_law_state", "_law_wide"] (spBad K))
    (D_law_told : Dn P w K mg base CX0 6 "_law_told" ["_law_room", "_law_door", "_law_one", "_law_other"] (spTold K C_Room)) (D_law_same : DnG P w K mg base CX0 1 "_law_same" ["_law_told_here", "_law_thing"] (spSame K)) (D_law_all_doors : DnG P w K mg base CX0 7 "_law_all_doors" ["_law_state", "_law_room", "_law_bad_here", "_law_good"] (spDoors K C_Room)) (D_law_past : DnG P w K mg base CX0 7 "_law_past" ["_law_state", "_law_room", "_law_wide"] (spPast K C_Room)) (D_law_no_room : DnG P w K mg base CX0 5 "_law_no_room" ["_law_wide"] (spNoRoom K))
    (M_Room : Mn P w K mg base (L2.CX P w) 3 C_Room "Room" ["self", "wide"] (spRInit K C_Room C_NoRoom)) (N_Room_left : Nn P w K mg base (L2.CX P w) 5 C_Room "left" ["self", "place", "number"] (spLeft K C_Room C_NoPlace)) (N_Room_cells : Nn P w K mg base CX0 1 C_Room "cells" ["self"] (spCellsR C_Room)) : FnOkG P w K mg base CX0 8 f fd ["_law_script"] (spLaw K) := by
  refine Fun_okG F sc_law (fun vs H Q E h => ?_) (fun cdv A outer s H vs Q E hr hA h => ?_)
  · obtain ⟨a, ns, rfl, _⟩ := h
    rfl
  · obtain ⟨a, ns, rfl, hS, hl, q⟩ := h
    refine ⟨_, (pss_cons (ps_for PassesOwn.never rfl (pi_rangeL1 (by rfl) z_range (pa_cons (pe_callB (call_max2R rfl) (by rfl) z_max (by decide +kernel) (pa_cons pe_int (pa_cons (pe_callB (call_min2R rfl) (by rfl) z_min (by decide +kernel) (pa_cons pe_int (pa_cons (pe_callB (call_lenR (K := K)) (by rfl) z_len (by decide +kernel) (pa_cons (pv 0) pa_nil)) pa_nil))) pa_nil))) pa_nil)) (pg_name (i := 1) sc_law.nd rfl (by first | exact Or.inl rfl | exact Or.inr rfl)) (pss_cons (ps_set (i := 2) sc_law.nd rfl (by first | exact Or.inl rfl | exact Or.inr rfl) (pe_cd D_law_begun (hr.mono (by decide)) (by rfl) pass0 (pa_cons (pe_cd D_law_cell (hr.mono (by decide)) (by rfl) pass0 (pa_cons (pv 0) (pa_cons (pv 1) pa_nil))) pa_nil)))
      (pss_cons (ps_set (i := 3) sc_law.nd rfl (by first | exact Or.inl rfl | exact Or.inr rfl) (pe_ix (ix_listK (K := K)) (pe_lst (pa_cons pe_int (pa_cons pe_int (pa_cons pe_int (pa_cons (pe_op op_add pe_int (pe_cd D_law_draw (hr.mono (by decide)) (by rfl) pass0 (pa_cons (pv 2) (pa_cons pe_int pa_nil)))) pa_nil))))) (pe_cd D_law_draw (hr.mono (by decide)) (by rfl) pass0 (pa_cons (pv 2) (pa_cons pe_int pa_nil))) (fun _ _ => rfl)))
      (pss_cons (ps_set (i := 4) sc_law.nd rfl (by first | exact Or.inl rfl | exact Or.inr rfl) (pe_mk M_Room (hr.mono (by decide)) (by rfl) passF (pa_cons (pv 3) pa_nil)))
      (pss_cons (ps_set (i := 5) sc_law.nd rfl (by first | exact Or.inl rfl | exact Or.inr rfl) (pe_cd D_law_place (hr.mono (by decide)) (by rfl) pass0 (pa_cons (pv 2) (pa_cons (pv 3) pa_nil))))
      (pss_cons (ps_expr (pe_md (pv 4) N_Room_left (hr.mono (by decide)) passF (pa_cons (pv 5) (pa_cons (pe_op op_sub pe_int pe_int) pa_nil))))
      (pss_cons (ps_set (i := 6) sc_law.nd rfl (by first | exact Or.inl rfl | exact Or.inr rfl) (pe_md0 (pv 4) N_Room_cells (hr.mono (by decide)) pass0))
      (pss_cons (ps_for PassesOwn.never rfl (pi_rangeL1 (by rfl) z_range (pa_cons pe_int pa_nil)) (pg_name (i := 7) sc_law.nd rfl (by first | exact Or.inl rfl | exact Or.inr rfl)) (pss_cons (ps_set (i := 8) sc_law.nd rfl (by first | exact Or.inl rfl | exact Or.inr rfl) (pe_cd D_law_bad (hr.mono (by decide)) (by rfl) pass0 (pa_cons (pv 2) (pa_cons (pv 3) pa_nil))))
      (pss_cons (ps_if (PW.pt (pw_or (pt_not (pt_val (pe_cdG D_law_all_doors hA (hr.mono (by decide)) (by rfl) pass0 (pa_cons (pv 2) (pa_cons (pv 4) (pa_cons (pv 8) (pa_cons (pv 5) pa_nil))))))) (pw_or1 (pt_cmpR (op_neDK hr.units (K := K)) (pe_md0 (pv 4) N_Room_cells (hr.mono (by decide)) pass0) (pv 6) (nomark _))))) (pss_one (ps_ret pe_bl)) pss_nil)
      (pss_one (ps_if (pt_not (pt_val (pe_cdG D_law_same hA (hr.mono (by decide)) (by rfl) pass0 (pa_cons (pe_cd D_law_told (hr.mono (by decide)) (by rfl) pass0 (pa_cons (pv 4) (pa_cons pe_int (pa_cons (pv 8) (pa_cons (pe_cd D_law_bad (hr.mono (by decide)) (by rfl) pass0 (pa_cons (pv 2) (pa_cons (pv 3) pa_nil))) pa_nil))))) (pa_cons (pv 8) pa_nil))))) (pss_one (ps_ret pe_bl)) pss_nil)))))
      (pss_cons (ps_if (PW.pt (pw_or (pt_not (pt_val (pe_cdG D_law_past hA (hr.mono (by decide)) (by rfl) pass0 (pa_cons (pv 2) (pa_cons (pv 4) (pa_cons (pv 3) pa_nil)))))) (pw_or1 (pt_cmpR (op_neDK hr.units (K := K)) (pe_md0 (pv 4) N_Room_cells (hr.mono (by decide)) pass0) (pv 6) (nomark _))))) (pss_one (ps_ret pe_bl)) pss_nil)
      (pss_cons (ps_set (i := 9) sc_law.nd rfl (by first | exact Or.inl rfl | exact Or.inr rfl) (pe_ix (ix_listK (K := K)) (pe_lst (pa_cons pe_int (pa_cons pe_int (pa_cons (pe_op op_sub pe_int pe_int) (pa_cons pe_non (pa_cons pe_bl (pa_cons pe_str (pa_cons (pe_lst (pa_cons pe_int pa_nil)) (pa_cons (pe_tup (pa_cons pe_int pa_nil)) (pa_cons pe_dnewK (pa_cons (pe_op op_pow pe_int pe_int) pa_nil))))))))))) (pe_cd D_law_draw (hr.mono (by decide)) (by rfl) pass0 (pa_cons (pv 2) (pa_cons pe_int pa_nil))) (fun _ _ => rfl)))
      (pss_one (ps_if (PW.pt (pw_or (pt_not (pt_val (pe_cdG D_law_no_room hA (hr.mono (by decide)) (by rfl) pass0 (pa_cons (pv 9) pa_nil)))) (pw_or (pt_cmpR (op_neDK hr.units (K := K)) (pe_md0 (pe_mk M_Room (hr.mono (by decide)) (by rfl) passF (pa_cons pe_int pa_nil)) N_Room_cells (hr.mono (by decide)) pass0) (pe_lst (pa_cons pe_int pa_nil)) (nomark _)) (pw_or1 (pt_cmpR op_ne (pe_fldK (pe_mk M_Room (hr.mono (by decide)) (by rfl) passF (pa_cons pe_int pa_nil)) rfl (K := K)) pe_int (nomark _)))))) (pss_one (ps_ret pe_bl)) pss_nil))))))))))))
      (pss_one (ps_ret pe_bl))), ?_⟩
    walk_at "rd"
    have wIn : ∀ {x : Nat}, 1 ≤ x → x ≤ 8192 → isIn (.int (x : Int)) 1 8192 = true := fun h1 h2 => by
      show (decide _ && decide _) = true
      rw [decide_eq_true (by omega), decide_eq_true (by omega)]
      rfl
    -- a room is made
    have mk : ∀ {H : Hp} {x : Nat} {Q : Addr → Hp → Prop} {E : XK}, 1 ≤ x → x ≤ 8192 → (∀ p d H1, H p = none → H d = none → Same H H1 → RoomAt C_Room H1 p d x (fun _ => false) → Q p H1) → Made H C_Room fun y H2 => spRInit K C_Room C_NoRoom [.ref y, .int (x : Int)] H2 (fun v H3 => v = .non ∧ Q y H3) E := fun {H x Q E} h1 h2 q => by
      refine Made.intro fun p dx H6 np s6 h6 => ⟨p, dx, _, "int", rfl, .int _, h6, fun w' ew l1 l2 d H7 o7 nd hr7 => ⟨rfl, ?_⟩, fun h => ?_⟩
      · obtain rfl : w' = x := by
          have := V.int.inj ew
          omega
        exact q p d H7 np (s6.free nd) (Same.off s6 np o7) hr7
      · rw [wIn h1 h2] at h
        cases h
    refine ⟨_, .inl hS, Loop.range (fun i σ HA => ∃ y1 y2 y3 y4 y5 y6 y7 y8 y9, σ = [some (.ref a), y1, y2, y3, y4, y5, y6, y7, y8, y9] ∧ Same H HA) ⟨_, _, _, _, _, _, _, _, _, rfl, Same.refl _⟩ ?_ ?_⟩
    · rintro i σ HA hi ⟨y1, y2, y3, y4, y5, y6, y7, y8, y9, rfl, sA⟩
      walk_at "rd"
      have hi2 : i ≤ 1000 := by
        rw [List.length_map] at hi
        split at hi <;> split at hi <;> omega
      refine ⟨a, ns, _, rfl, sA.seq hS, by omega, by omega, hl, fun z => ?_⟩
      refine ⟨z, rfl, fun t H1 nt s1 d1 => ?_⟩
      walk_at "rd"
      refine ⟨t, 200, rfl, d1, by decide, by decide, fun v H2 va vb o2 d2 => ?_⟩
      refine ⟨v, rfl, by decide, New.intro fun u1 H3 n3 s3 h3 => ?_⟩
      have d3 := d2.same s3
      refine ⟨t, 4, rfl, d3, by decide, by decide, fun v2 H4 v2a v2b o4 d4 => ?_⟩
      have h4 := o4 _ _ (Ne.symm (d2.ne n3)) h3
      obtain ⟨wd, ax, w1, w2⟩ : ∃ wd : Nat, atI [V.int 1, V.int 2, V.int 64, V.int (1 + v)] v2 = some (.int (wd : Int)) ∧ 1 ≤ wd ∧ wd ≤ 8192 := by
        have : v2 = 0 ∨ v2 = 1 ∨ v2 = 2 ∨ v2 = 3 := by omega
        rcases this with rfl | rfl | rfl | rfl
        · exact ⟨1, rfl, by decide, by decide⟩
        · exact ⟨2, rfl, by decide, by decide⟩
        · exact ⟨64, rfl, by decide, by decide⟩
        · refine ⟨(1 + v).toNat, ?_, by omega, by omega⟩
          rw [show (((1 + v).toNat : Nat) : Int) = 1 + v by omega]
          rfl
      refine ⟨_, _, rfl, seq_of h4, _, ax, mk w1 w2 fun p d H5 np nd s5 hr => ?_⟩
      have ndt : d ≠ t := Ne.symm (d4.ne nd)
      have d5 := d4.same s5
      refine ⟨t, wd, rfl, d5, by omega, by omega, fun g H6 ci si bi ng o6 d6 hg okp lw => ?_⟩
      have hb := okP_last okp
      obtain ⟨c, rfl⟩ : ∃ c : Nat, ci = (c : Int) := ⟨ci.toNat, by omega⟩
      obtain ⟨sh, rfl⟩ : ∃ c : Nat, si = (c : Int) := ⟨si.toNat, by omega⟩
      obtain ⟨b, rfl⟩ : ∃ c : Nat, bi = (c : Int) := ⟨bi.toNat, by omega⟩
      have hr6 := hr.off ndt d5 o6
      obtain ⟨⟨dx6, hp6⟩, hd6⟩ := id hr6
      refine ⟨_, _, hp6, rf_left, p, d, wd, _, _, _, rfl, hr6, w2, .inl ⟨g, c, sh, b, rfl, seqT_of hg, okp, lw, fun H7 o7 hr7 => ?_⟩⟩
      obtain ⟨⟨dx7, hp7⟩, hd7⟩ := id hr7
      refine ⟨_, _, hp7, rf_cells, p, d, wd, _, rfl, hr7, fun l H8 nl s8 h8 => ?_⟩
      generalize putB (fun _ => false) (8 * c + sh) b (0 - 1) = B at hr7 h8
      have hr8 := hr7.same s8
      have gne : g ≠ d := fun e => by
        subst e
        rw [hg] at hd6
        cases hd6
      have hg8 : Good H8 wd (.ref g) := ⟨g, c, sh, b, rfl, s8 _ _ (o7 _ _ gne hg), okp, lw⟩
      have d7 : DSt H7 t := by
        obtain ⟨r, k, z, h⟩ := d6
        exact ⟨r, k, z, o7 _ _ (Ne.symm ndt) h⟩
      have d8 := d7.same s8
      have nlt : l ≠ t := Ne.symm (d7.ne nl)
      have nld : l ≠ d := fun e => by
        subst e
        rw [hd7] at nl
        cases nl
      have tS : t ∈ [t, d] := List.mem_cons_self
      have dS : d ∈ [t, d] := List.mem_cons_of_mem _ List.mem_cons_self
      have o18 : OffS [t, d] HA H8 := (((((OffS.same s1).trans (OffS.off o2 tS)).trans (OffS.same s3)).trans (OffS.off o4 tS)).trans ((OffS.same s5).trans (OffS.off o6 tS))).trans ((OffS.off o7 dS).trans (OffS.same s8))
      have ndA : HA d = none := s1.free (noneD o2 d1 d2 (s3.free (noneD o4 d3 d4 nd)))
      have back : ∀ {H9 : Hp}, OffS [t, d] H8 H9 → Same H H9 := fun o b u h => by
        have h' := sA _ _ h
        have n1 : b ∉ [t, d] := fun m => by
          simp only [List.mem_cons, List.not_mem_nil, or_false] at m
          rcases m with rfl | rfl
          · rw [nt] at h'
            cases h'
          · rw [ndA] at h'
            cases h'
        exact o _ _ n1 (o18 _ _ n1 h')
      have lnS : l ∉ [t, d] := fun m => by
        simp only [List.mem_cons, List.not_mem_nil, or_false] at m
        rcases m with rfl | rfl
        · exact nlt rfl
        · exact nld rfl
      have gnS : g ∉ [t, d] := fun m => by
        simp only [List.mem_cons, List.not_mem_nil, or_false] at m
        rcases m with rfl | rfl
        · obtain ⟨_, _, _, h⟩ := d6
          rw [hg] at h
          cases h
        · exact gne rfl
      have live : ∀ {H9 : Hp}, DSt H9 t → RoomAt C_Room H9 p d wd B → Live [t, d] H9 := fun dd hr a m => by
        simp only [List.mem_cons, List.not_mem_nil, or_false] at m
        rcases m with rfl | rfl
        · obtain ⟨_, _, _, h⟩ := dd
          exact ⟨_, h⟩
        · exact ⟨_, hr.2⟩
      refine Loop.range (fun i σ HB => ∃ y1 y7 y8 y9, σ = [some (.ref a), y1, some (.ref t), some (.int (wd : Int)), some (.ref p), some (.ref g), some (.ref l), y7, y8, y9] ∧ OffS [t, d] H8 HB ∧ DSt HB t ∧ RoomAt C_Room HB p d wd B) ⟨_, _, _, _, rfl, OffS.refl, d8, hr8⟩ ?_ ?_
      · rintro i σ HB hi ⟨y1, y7, y8, y9, rfl, oB, dB, rB⟩
        walk_at "rd"
        refine ⟨t, wd, [t, d], rfl, dB, by omega, by omega, tS, live dB rB, fun x HC oC dC bx => ?_⟩
        have rC := rB.off ndt dB oC
        have oC8 := oB.trans (OffS.off oC tS)
        have gC : Good HC wd (.ref g) := ⟨g, c, sh, b, rfl, oC8 _ _ gnS (s8 _ _ (o7 _ _ gne hg)), okp, lw⟩
        refine ⟨t, p, d, wd, B, x, _, [t, d], rfl, dC, rC, ndt, w2, tS, bx, gC, fun HD oD dD => ⟨true, rfl, iteN (by decide) ?_⟩⟩
        have rD := rC.off ndt dC oD
        obtain ⟨⟨dxD, hpD⟩, hdD⟩ := id rD
        refine ⟨_, _, hpD, rf_cells, p, d, wd, _, rfl, rD, fun l2 HE n2 sE h2 => ?_⟩
        have oE8 := oC8.trans ((OffS.off oD tS).trans (OffS.same sE))
        refine ne_lst (seq_of h2) (seq_of (oE8 _ _ lnS h8)) (ints_pd _) ⟨_, rfl, iteN (by decide) ?_⟩
        have dE := dD.same sE
        have rE := rD.same sE
        refine ⟨t, wd, [t, d], rfl, dE, by omega, by omega, tS, live dE rE, fun x2 HF oF dF bx2 => ?_⟩
        have bxF := bx.keep ((OffS.off oD tS).trans ((OffS.same sE).trans (OffS.off oF tS)))
        have rF := rE.off ndt dE oF
        refine ⟨p, d, wd, B, 2, x, x2, rfl, rF, w2, .inl ⟨x, .first (.inr (.inr (.inl rfl))) bxF.2.now, fun u HG nu sG hu => ?_⟩⟩
        refine ⟨u, x, rfl, seq_of hu, (bxF.1.keep (OffS.same sG)).nil, fun HI sI => ⟨true, rfl, iteN (by decide) ?_⟩⟩
        exact ⟨(oE8.trans (OffS.off oF tS)).trans ((OffS.same sG).trans (OffS.same sI)), (dF.same sG).same sI, (rF.same sG).same sI⟩
      · rintro σ HB ⟨y1, y7, y8, y9, rfl, oB, dB, rB⟩
        walk_at "rd"
        refine ⟨t, p, d, wd, B, rfl, dB, rB, ndt, w1, w2, fun HC oC dC rC => ⟨true, rfl, iteN (by decide) ?_⟩⟩
        obtain ⟨⟨dxC, hpC⟩, hdC⟩ := id rC
        refine ⟨_, _, hpC, rf_cells, p, d, wd, _, rfl, rC, fun l2 HD n2 sD h2 => ?_⟩
        have oD8 := oB.trans (oC.trans (OffS.same sD))
        refine ne_lst (seq_of h2) (seq_of (oD8 _ _ lnS h8)) (ints_pd _) ⟨_, rfl, iteN (by decide) ?_⟩
        refine ⟨by decide, New.intro fun u1 E1 n1 e1 f1 => ⟨by decide, New.intro fun u2 E2 n2 e2 f2 => New.intro fun u3 E3 n3 e3 f3 => ⟨⟨by decide, by decide, by decide⟩, by decide, New.intro fun u4 E4 n4 e4 f4 => ?_⟩⟩⟩
        have sE4 := sD.trans (e1.trans (e2.trans (e3.trans e4)))
        have dE4 : DSt E4 t := dC.same sE4
        refine ⟨t, 10, rfl, dE4, by decide, by decide, fun v3 E5 v3a v3b o5 d5 => ?_⟩
        have f15 := o5 _ _ (Ne.symm (dC.ne (sD.free n1))) (e4 _ _ (e3 _ _ (e2 _ _ f1)))
        have f25 := o5 _ _ (Ne.symm (dC.ne (sD.free (e1.free n2)))) (e4 _ _ (e3 _ _ f2))
        have f35 := o5 _ _ (Ne.symm (dC.ne (sD.free (e1.free (e2.free n3))))) (e4 _ _ f3)
        have f45 := o5 _ _ (Ne.symm (dC.ne (sD.free (e1.free (e2.free (e3.free n4)))))) f4
        obtain ⟨x, ax, T, tx, ix, gx, ex⟩ : ∃ x, atI [V.int 0, V.int 8193, V.int (0 - 1), V.non, V.bl true, V.str (Str.ofString "8"), V.ref u1, V.ref u2, V.ref u3, V.int (10 ^ Int.toNat 29)] v3 = some x ∧ ∃ T, Th K E5 x T ∧ isIn x 1 8192 = false ∧ TgS K [] E5 x ∧ SelfEq K E5 x := by
          have : v3 = 0 ∨ v3 = 1 ∨ v3 = 2 ∨ v3 = 3 ∨ v3 = 4 ∨ v3 = 5 ∨ v3 = 6 ∨ v3 = 7 ∨ v3 = 8 ∨ v3 = 9 := by omega
          rcases this with rfl | rfl | rfl | rfl | rfl | rfl | rfl | rfl | rfl | rfl
          · exact ⟨_, rfl, _, .int _, by decide +kernel, ts_int (by decide +kernel), .inl rfl⟩
          · exact ⟨_, rfl, _, .int _, by decide +kernel, ts_int (by decide +kernel), .inl rfl⟩
          · exact ⟨_, rfl, _, .int _, by decide +kernel, ts_int (by decide +kernel), .inl rfl⟩
          · exact ⟨_, rfl, _, .non, rfl, ts_non, .inl rfl⟩
          · exact ⟨_, rfl, _, .bl _, rfl, ts_bl (by decide +kernel), .inl rfl⟩
          · exact ⟨_, rfl, _, .str _, rfl, ts_str (by decide +kernel), .inl rfl⟩
          · exact ⟨_, rfl, _, .lst (seq_of f15), rfl, ts_lst f15 (by simp) (by decide +kernel) (by decide +kernel) (by decide +kernel), .inr (.inl ⟨_, _, rfl, .inl (seq_of f15)⟩)⟩
          · exact ⟨_, rfl, _, .tup (seqT_of f25), rfl, ts_tup f25 (by simp) (by decide +kernel) (by decide +kernel) (by decide +kernel), .inr (.inl ⟨_, _, rfl, .inr (seqT_of f25)⟩)⟩
          · exact ⟨_, rfl, _, .dK f35, rfl, ts_dk f35 (by simp) (by decide +kernel) (by decide +kernel), .inr (.inr ⟨_, rfl, f35⟩)⟩
          · exact ⟨_, rfl, _, .int _, by decide +kernel, ts_int (by decide +kernel), .inl rfl⟩
        refine ⟨_, v3, rfl, seq_of f45, x, ax, x, T, rfl, tx, ix, gx, ex, fun E6 e6 => ⟨true, rfl, iteN (by decide) ?_⟩⟩
        refine mk (x := 1) (by decide) (by decide) fun p1 r1 E7 m1 m2 e7 hr1 => ?_
        obtain ⟨⟨dy, hp1⟩, hr1'⟩ := id hr1
        refine ⟨_, _, hp1, rf_cells, p1, r1, 1, _, rfl, hr1, fun l3 E8 k3 e8 h8' => ⟨by decide, New.intro fun u5 E9 n5 e9 f9 => ?_⟩⟩
        refine ne_lst (seq_of (e9 _ _ h8')) (seq_of f9) (ints_pd _) ⟨_, rfl, iteN (by decide) ?_⟩
        refine mk (x := 8192) (by decide) (by decide) fun p2 r2 E10 m3 m4 e10 hr2 => ?_
        obtain ⟨⟨dy2, hp2⟩, _⟩ := id hr2
        refine ⟨_, _, _, hp2, K_Room, A_Room_wide, _, rf_wide, rfl, iteN (fun h => h rfl) ?_⟩
        exact back ((oD8.trans (OffS.same (e1.trans (e2.trans (e3.trans e4))))).trans ((OffS.off o5 tS).trans (OffS.same (e6.trans (e7.trans (e8.trans (e9.trans e10)))))))
    · rintro σ HA ⟨y1, y2, y3, y4, y5, y6, y7, y8, y9, rfl, sA⟩
      walk_at "rd"
      exact q HA
end
theorem all_mk {l : PySem.W.OpenLaw} {w : World} {K : PySem.W.Frag} {h : Heap} {mg : Str → Option Value} {fa f_law_cell f_law_begun f_law_draw f_is_whole f_is_within f_NoPlace_init f_NoRoom_init f_is_place f_last_cell f_need_place f_cells_in f_Room_need_inside f_Room_taken f_Room_left f_Room_cells f_Room_init f_cells_of f_word_of f_law_place f_shares f_law_told f_law_same f_law_bad f_law_all_doors f_law_past f_law_no_room f_law C_Room C_NoPlace C_NoRoom C_RoomError : Addr} (X : K.In h) (G : h.Ns mainGlobals mg) (hfa : mg "law" = some (.ref fa))
    {od_law_cell an_law_cell : Option Addr} {sl_law_cell : Array (Option Value)} {oc_law_cell kV_law_cell dc_law_cell pm_law_cell cd_law_cell ct_law_cell : Value}
    {od_law_begun an_law_begun : Option Addr} {sl_law_begun : Array (Option Value)} {oc_law_begun kV_law_begun dc_law_begun pm_law_begun cd_law_begun ct_law_begun : Value}
    {od_law_draw an_law_draw : Option Addr} {sl_law_draw : Array (Option Value)} {oc_law_draw kV_law_draw dc_law_draw pm_law_draw cd_law_draw ct_law_draw : Value}
    {od_is_whole an_is_whole : Option Addr} {sl_is_whole : Array (Option Value)} {oc_is_whole kV_is_whole dc_is_whole pm_is_whole cd_is_whole ct_is_whole : Value}
    {od_is_within an_is_within : Option Addr} {sl_is_within : Array (Option Value)} {oc_is_within kV_is_within dc_is_within pm_is_within cd_is_within ct_is_within : Value}
    {od_NoPlace_init an_NoPlace_init : Option Addr} {sl_NoPlace_init : Array (Option Value)} {oc_NoPlace_init kV_NoPlace_init dc_NoPlace_init pm_NoPlace_init cd_NoPlace_init ct_NoPlace_init : Value}
    {od_NoRoom_init an_NoRoom_init : Option Addr} {sl_NoRoom_init : Array (Option Value)} {oc_NoRoom_init kV_NoRoom_init dc_NoRoom_init pm_NoRoom_init cd_NoRoom_init ct_NoRoom_init : Value}
    {od_is_place an_is_place : Option Addr} {sl_is_place : Array (Option Value)} {oc_is_place kV_is_place dc_is_place pm_is_place cd_is_place ct_is_place : Value}
    {od_last_cell an_last_cell : Option Addr} {sl_last_cell : Array (Option Value)} {oc_last_cell kV_last_cell dc_last_cell pm_last_cell cd_last_cell ct_last_cell : Value}
    {od_need_place an_need_place : Option Addr} {sl_need_place : Array (Option Value)} {oc_need_place kV_need_place dc_need_place pm_need_place cd_need_place ct_need_place : Value}
    {od_cells_in an_cells_in : Option Addr} {sl_cells_in : Array (Option Value)} {oc_cells_in kV_cells_in dc_cells_in pm_cells_in cd_cells_in ct_cells_in : Value}
    {od_Room_need_inside an_Room_need_inside : Option Addr} {sl_Room_need_inside : Array (Option Value)} {oc_Room_need_inside kV_Room_need_inside dc_Room_need_inside pm_Room_need_inside cd_Room_need_inside ct_Room_need_inside : Value}
    {od_Room_taken an_Room_taken : Option Addr} {sl_Room_taken : Array (Option Value)} {oc_Room_taken kV_Room_taken dc_Room_taken pm_Room_taken cd_Room_taken ct_Room_taken : Value}
    {od_Room_left an_Room_left : Option Addr} {sl_Room_left : Array (Option Value)} {oc_Room_left kV_Room_left dc_Room_left pm_Room_left cd_Room_left ct_Room_left : Value}
    {od_Room_cells an_Room_cells : Option Addr} {sl_Room_cells : Array (Option Value)} {oc_Room_cells kV_Room_cells dc_Room_cells pm_Room_cells cd_Room_cells ct_Room_cells : Value}
    {od_Room_init an_Room_init : Option Addr} {sl_Room_init : Array (Option Value)} {oc_Room_init kV_Room_init dc_Room_init pm_Room_init cd_Room_init ct_Room_init : Value}
    {od_cells_of an_cells_of : Option Addr} {sl_cells_of : Array (Option Value)} {oc_cells_of kV_cells_of dc_cells_of pm_cells_of cd_cells_of ct_cells_of : Value}
    {od_word_of an_word_of : Option Addr} {sl_word_of : Array (Option Value)} {oc_word_of kV_word_of dc_word_of pm_word_of cd_word_of ct_word_of : Value}
    {od_law_place an_law_place : Option Addr} {sl_law_place : Array (Option Value)} {oc_law_place kV_law_place dc_law_place pm_law_place cd_law_place ct_law_place : Value}
    {od_shares an_shares : Option Addr} {sl_shares : Array (Option Value)} {oc_shares kV_shares dc_shares pm_shares cd_shares ct_shares : Value}
    {od_law_told an_law_told : Option Addr} {sl_law_told : Array (Option Value)} {oc_law_told kV_law_told dc_law_told pm_law_told cd_law_told ct_law_told : Value}
    {od_law_same an_law_same : Option Addr} {sl_law_same : Array (Option Value)} {oc_law_same kV_law_same dc_law_same pm_law_same cd_law_same ct_law_same : Value}
    {od_law_bad an_law_bad : Option Addr} {sl_law_bad : Array (Option Value)} {oc_law_bad kV_law_bad dc_law_bad pm_law_bad cd_law_bad ct_law_bad : Value}
    {od_law_all_doors an_law_all_doors : Option Addr} {sl_law_all_doors : Array (Option Value)} {oc_law_all_doors kV_law_all_doors dc_law_all_doors pm_law_all_doors cd_law_all_doors ct_law_all_doors : Value}
    {od_law_past an_law_past : Option Addr} {sl_law_past : Array (Option Value)} {oc_law_past kV_law_past dc_law_past pm_law_past cd_law_past ct_law_past : Value}
    {od_law_no_room an_law_no_room : Option Addr} {sl_law_no_room : Array (Option Value)} {oc_law_no_room kV_law_no_room dc_law_no_room pm_law_no_room cd_law_no_room ct_law_no_room : Value}
    {od_law an_law : Option Addr} {sl_law : Array (Option Value)} {oc_law kV_law dc_law pm_law cd_law ct_law : Value}
    (aC_NoPlace : PySem.W.nsIn K mainGlobals "NoPlace" = some (some (.ref C_NoPlace)))
    (eC_NoPlace : PySem.W.subIn K (.ref C_NoPlace) (.type "BaseException") = some true)
    (tC_NoPlace : PySem.W.typeIn K (.ref C_NoPlace) = some (.type "type"))
    (hC_NoPlace : PySem.W.hasDictIn K C_NoPlace = true)
    {nm_NoPlace q_NoPlace : Str} {N_NoPlace : Addr} {bs_NoPlace : List Value} {sn_NoPlace : List Str} {sub_NoPlace : List Value} {ab_NoPlace : Bool} {col_NoPlace : Option Bool} {dd_NoPlace : Option Addr} {m0_NoPlace m1_NoPlace m2_NoPlace m3_NoPlace m5_NoPlace : Option Value} (xL_NoPlace : K.lookup C_NoPlace = some (excClassObj nm_NoPlace q_NoPlace C_NoPlace N_NoPlace bs_NoPlace [.ref C_RoomError, .type "ValueError", .type "Exception", .type "BaseException", .type "object"] true sn_NoPlace sub_NoPlace ab_NoPlace col_NoPlace dd_NoPlace m0_NoPlace m1_NoPlace m2_NoPlace m3_NoPlace m5_NoPlace "ValueError.__new__"))
    (sa_NoPlace : PySem.W.findIn K (.ref C_NoPlace) "__setattr__" = some (some (.builtin "object.__setattr__")))
    (ga_NoPlace : PySem.W.findIn K (.ref C_NoPlace) "__getattribute__" = some (some (.builtin "BaseException.__getattribute__")))
    (gg_NoPlace : PySem.W.findIn K (.ref C_NoPlace) "__getattr__" = some none)
    (kC_NoPlace : PySem.W.keepIn K (.ref C_NoPlace) = true)
    (aC_NoRoom : PySem.W.nsIn K mainGlobals "NoRoom" = some (some (.ref C_NoRoom)))
    (eC_NoRoom : PySem.W.subIn K (.ref C_NoRoom) (.type "BaseException") = some true)
    (tC_NoRoom : PySem.W.typeIn K (.ref C_NoRoom) = some (.type "type"))
    (hC_NoRoom : PySem.W.hasDictIn K C_NoRoom = true)
    {nm_NoRoom q_NoRoom : Str} {N_NoRoom : Addr} {bs_NoRoom : List Value} {sn_NoRoom : List Str} {sub_NoRoom : List Value} {ab_NoRoom : Bool} {col_NoRoom : Option Bool} {dd_NoRoom : Option Addr} {m0_NoRoom m1_NoRoom m2_NoRoom m3_NoRoom m5_NoRoom : Option Value} (xL_NoRoom : K.lookup C_NoRoom = some (excClassObj nm_NoRoom q_NoRoom C_NoRoom N_NoRoom bs_NoRoom [.ref C_RoomError, .type "ValueError", .type "Exception", .type "BaseException", .type "object"] true sn_NoRoom sub_NoRoom ab_NoRoom col_NoRoom dd_NoRoom m0_NoRoom m1_NoRoom m2_NoRoom m3_NoRoom m5_NoRoom "ValueError.__new__"))
    (sa_NoRoom : PySem.W.findIn K (.ref C_NoRoom) "__setattr__" = some (some (.builtin "object.__setattr__")))
    (ga_NoRoom : PySem.W.findIn K (.ref C_NoRoom) "__getattribute__" = some (some (.builtin "BaseException.__getattribute__")))
    (gg_NoRoom : PySem.W.findIn K (.ref C_NoRoom) "__getattr__" = some none)
    (kC_NoRoom : PySem.W.keepIn K (.ref C_NoRoom) = true)
    (aC_RoomError : PySem.W.nsIn K mainGlobals "RoomError" = some (some (.ref C_RoomError)))
    (eC_RoomError : PySem.W.subIn K (.ref C_RoomError) (.type "BaseException") = some true)
    (tC_RoomError : PySem.W.typeIn K (.ref C_RoomError) = some (.type "type"))
    (hC_RoomError : PySem.W.hasDictIn K C_RoomError = true)
    (rd_RoomError : PySem.W.readsIn K C_RoomError (.type "type") = true)
    (sg_RoomError : PySem.W.specialIn K (.ref C_RoomError) "__getattribute__" = some (some (.builtin "type.__getattribute__")))
    (vf_RoomError : PySem.W.findCls K (.ref C_RoomError) (.type "type") "__init__" = some (.val (.builtin "ValueError.__init__")))
    (nb_NoPlace_found : PySem.W.findIn K (.ref C_NoPlace) "found" = some none)
    (nb_NoRoom_found : PySem.W.findIn K (.ref C_NoRoom) "found" = some none)
    (oc_get : PySem.W.specialIn K (.builtin "object.__class__") "__get__" = some (some (.builtin "getset_descriptor.__get__")))
    (oc_tk : PySem.W.takesIn K (.builtin "object.__class__") = some true)
    (cl_NoRoom : PySem.W.findIn K (.ref C_NoRoom) "__class__" = some (some (.builtin "object.__class__")))
    (mo_NoRoom : PySem.W.mroIn K C_NoRoom (.type "object") = some true)
    (su_NoPlace_NoPlace : PySem.W.subIn K (.ref C_NoPlace) (.ref C_NoPlace) = some true)
    (su_NoRoom_NoPlace : PySem.W.subIn K (.ref C_NoRoom) (.ref C_NoPlace) = some false)
    (su_NoRoom_NoRoom : PySem.W.subIn K (.ref C_NoRoom) (.ref C_NoRoom) = some true)
    (aC_Room : PySem.W.nsIn K mainGlobals "Room" = some (some (.ref C_Room)))
    (pg_Room : PySem.W.plainGet K C_Room Str.empty = true)
    (hd_Room : PySem.W.hasDictIn K C_Room = true)
    (po_Room : PySem.W.plainOver K C_Room = true)
    (sa_Room : PySem.W.findIn K (.ref C_Room) "__setattr__" = some (some (.builtin "object.__setattr__")))
    (mk_Room : PySem.W.makesIn K C_Room = true)
    (kc_Room : PySem.W.keepIn K (.ref C_Room) = true)
    (nA_Room_filled : PySem.W.findIn K (.ref C_Room) "filled" = some none)
    (nA_Room_wide : PySem.W.findIn K (.ref C_Room) "wide" = some none)
    (a_law_cell : PySem.W.nsIn K mainGlobals "_law_cell" = some (some (.ref f_law_cell)))
    (l_law_cell : K.lookup f_law_cell = some ⟨oc_law_cell, od_law_cell, .func (PySem.W.fnOf "_law_cell" "_law_cell" (defArgs s_law_cell) (defBody s_law_cell) (defScope s_law_cell) .none kV_law_cell dc_law_cell pm_law_cell an_law_cell cd_law_cell ct_law_cell), sl_law_cell⟩)
    (c_law_cell : PySem.W.codeIn K cd_law_cell "_law_cell" = true)
    (k_law_cell : PySem.W.keepIn K (.ref f_law_cell) = true)
    (a_law_begun : PySem.W.nsIn K mainGlobals "_law_begun" = some (some (.ref f_law_begun)))
    (l_law_begun : K.lookup f_law_begun = some ⟨oc_law_begun, od_law_begun, .func (PySem.W.fnOf "_law_begun" "_law_begun" (defArgs s_law_begun) (defBody s_law_begun) (defScope s_law_begun) .none kV_law_begun dc_law_begun pm_law_begun an_law_begun cd_law_begun ct_law_begun), sl_law_begun⟩)
    (c_law_begun : PySem.W.codeIn K cd_law_begun "_law_begun" = true)
    (k_law_begun : PySem.W.keepIn K (.ref f_law_begun) = true)
    (a_law_draw : PySem.W.nsIn K mainGlobals "_law_draw" = some (some (.ref f_law_draw)))
    (l_law_draw : K.lookup f_law_draw = some ⟨oc_law_draw, od_law_draw, .func (PySem.W.fnOf "_law_draw" "_law_draw" (defArgs s_law_draw) (defBody s_law_draw) (defScope s_law_draw) .none kV_law_draw dc_law_draw pm_law_draw an_law_draw cd_law_draw ct_law_draw), sl_law_draw⟩)
    (c_law_draw : PySem.W.codeIn K cd_law_draw "_law_draw" = true)
    (k_law_draw : PySem.W.keepIn K (.ref f_law_draw) = true)
    (a_is_whole : PySem.W.nsIn K mainGlobals "is_whole" = some (some (.ref f_is_whole)))
    (l_is_whole : K.lookup f_is_whole = some ⟨oc_is_whole, od_is_whole, .func (PySem.W.fnOf "is_whole" "is_whole" (defArgs s_is_whole) (defBody s_is_whole) (defScope s_is_whole) .none kV_is_whole dc_is_whole pm_is_whole an_is_whole cd_is_whole ct_is_whole), sl_is_whole⟩)
    (c_is_whole : PySem.W.codeIn K cd_is_whole "is_whole" = true)
    (k_is_whole : PySem.W.keepIn K (.ref f_is_whole) = true)
    (a_is_within : PySem.W.nsIn K mainGlobals "is_within" = some (some (.ref f_is_within)))
    (l_is_within : K.lookup f_is_within = some ⟨oc_is_within, od_is_within, .func (PySem.W.fnOf "is_within" "is_within" (defArgs s_is_within) (defBody s_is_within) (defScope s_is_within) .none kV_is_within dc_is_within pm_is_within an_is_within cd_is_within ct_is_within), sl_is_within⟩)
    (c_is_within : PySem.W.codeIn K cd_is_within "is_within" = true)
    (k_is_within : PySem.W.keepIn K (.ref f_is_within) = true)
    (a_NoPlace_init : PySem.W.findIn K (.ref C_NoPlace) "__init__" = some (some (.ref f_NoPlace_init)))
    (t_NoPlace_init : PySem.W.typeIn K (.ref f_NoPlace_init) = some (.type "function"))
    (l_NoPlace_init : K.lookup f_NoPlace_init = some ⟨oc_NoPlace_init, od_NoPlace_init, .func (PySem.W.fnOf "__init__" "NoPlace.__init__" (defArgs s_NoPlace_init) (defBody s_NoPlace_init) (defScope s_NoPlace_init) .none kV_NoPlace_init dc_NoPlace_init pm_NoPlace_init an_NoPlace_init cd_NoPlace_init ct_NoPlace_init), sl_NoPlace_init⟩)
    (c_NoPlace_init : PySem.W.codeIn K cd_NoPlace_init "NoPlace.__init__" = true)
    (k_NoPlace_init : PySem.W.keepIn K (.ref f_NoPlace_init) = true)
    (a_NoRoom_init : PySem.W.findIn K (.ref C_NoRoom) "__init__" = some (some (.ref f_NoRoom_init)))
    (t_NoRoom_init : PySem.W.typeIn K (.ref f_NoRoom_init) = some (.type "function"))
    (l_NoRoom_init : K.lookup f_NoRoom_init = some ⟨oc_NoRoom_init, od_NoRoom_init, .func (PySem.W.fnOf "__init__" "NoRoom.__init__" (defArgs s_NoRoom_init) (defBody s_NoRoom_init) (defScope s_NoRoom_init) .none kV_NoRoom_init dc_NoRoom_init pm_NoRoom_init an_NoRoom_init cd_NoRoom_init ct_NoRoom_init), sl_NoRoom_init⟩)
    (c_NoRoom_init : PySem.W.codeIn K cd_NoRoom_init "NoRoom.__init__" = true)
    (k_NoRoom_init : PySem.W.keepIn K (.ref f_NoRoom_init) = true)
    (a_is_place : PySem.W.nsIn K mainGlobals "is_place" = some (some (.ref f_is_place)))
    (l_is_place : K.lookup f_is_place = some ⟨oc_is_place, od_is_place, .func (PySem.W.fnOf "is_place" "is_place" (defArgs s_is_place) (defBody s_is_place) (defScope s_is_place) .none kV_is_place dc_is_place pm_is_place an_is_place cd_is_place ct_is_place), sl_is_place⟩)
    (c_is_place : PySem.W.codeIn K cd_is_place "is_place" = true)
    (k_is_place : PySem.W.keepIn K (.ref f_is_place) = true)
    (a_last_cell : PySem.W.nsIn K mainGlobals "last_cell" = some (some (.ref f_last_cell)))
    (l_last_cell : K.lookup f_last_cell = some ⟨oc_last_cell, od_last_cell, .func (PySem.W.fnOf "last_cell" "last_cell" (defArgs s_last_cell) (defBody s_last_cell) (defScope s_last_cell) .none kV_last_cell dc_last_cell pm_last_cell an_last_cell cd_last_cell ct_last_cell), sl_last_cell⟩)
    (c_last_cell : PySem.W.codeIn K cd_last_cell "last_cell" = true)
    (k_last_cell : PySem.W.keepIn K (.ref f_last_cell) = true)
    (a_need_place : PySem.W.nsIn K mainGlobals "need_place" = some (some (.ref f_need_place)))
    (l_need_place : K.lookup f_need_place = some ⟨oc_need_place, od_need_place, .func (PySem.W.fnOf "need_place" "need_place" (defArgs s_need_place) (defBody s_need_place) (defScope s_need_place) .none kV_need_place dc_need_place pm_need_place an_need_place cd_need_place ct_need_place), sl_need_place⟩)
    (c_need_place : PySem.W.codeIn K cd_need_place "need_place" = true)
    (k_need_place : PySem.W.keepIn K (.ref f_need_place) = true)
    (a_cells_in : PySem.W.nsIn K mainGlobals "cells_in" = some (some (.ref f_cells_in)))
    (l_cells_in : K.lookup f_cells_in = some ⟨oc_cells_in, od_cells_in, .func (PySem.W.fnOf "cells_in" "cells_in" (defArgs s_cells_in) (defBody s_cells_in) (defScope s_cells_in) .none kV_cells_in dc_cells_in pm_cells_in an_cells_in cd_cells_in ct_cells_in), sl_cells_in⟩)
    (c_cells_in : PySem.W.codeIn K cd_cells_in "cells_in" = true)
    (k_cells_in : PySem.W.keepIn K (.ref f_cells_in) = true)
    (a_Room_need_inside : PySem.W.findIn K (.ref C_Room) "need_inside" = some (some (.ref f_Room_need_inside)))
    (i_Room_need_inside : PySem.W.isFn K (.ref f_Room_need_inside) = true)
    (l_Room_need_inside : K.lookup f_Room_need_inside = some ⟨oc_Room_need_inside, od_Room_need_inside, .func (PySem.W.fnOf "need_inside" "Room.need_inside" (defArgs s_Room_need_inside) (defBody s_Room_need_inside) (defScope s_Room_need_inside) .none kV_Room_need_inside dc_Room_need_inside pm_Room_need_inside an_Room_need_inside cd_Room_need_inside ct_Room_need_inside), sl_Room_need_inside⟩)
    (c_Room_need_inside : PySem.W.codeIn K cd_Room_need_inside "Room.need_inside" = true)
    (k_Room_need_inside : PySem.W.keepIn K (.ref f_Room_need_inside) = true)
    (a_Room_taken : PySem.W.findIn K (.ref C_Room) "taken" = some (some (.ref f_Room_taken)))
    (i_Room_taken : PySem.W.isFn K (.ref f_Room_taken) = true)
    (l_Room_taken : K.lookup f_Room_taken = some ⟨oc_Room_taken, od_Room_taken, .func (PySem.W.fnOf "taken" "Room.taken" (defArgs s_Room_taken) (defBody s_Room_taken) (defScope s_Room_taken) .none kV_Room_taken dc_Room_taken pm_Room_taken an_Room_taken cd_Room_taken ct_Room_taken), sl_Room_taken⟩)
    (c_Room_taken : PySem.W.codeIn K cd_Room_taken "Room.taken" = true)
    (k_Room_taken : PySem.W.keepIn K (.ref f_Room_taken) = true)
    (a_Room_left : PySem.W.findIn K (.ref C_Room) "left" = some (some (.ref f_Room_left)))
    (i_Room_left : PySem.W.isFn K (.ref f_Room_left) = true)
    (l_Room_left : K.lookup f_Room_left = some ⟨oc_Room_left, od_Room_left, .func (PySem.W.fnOf "left" "Room.left" (defArgs s_Room_left) (defBody s_Room_left) (defScope s_Room_left) .none kV_Room_left dc_Room_left pm_Room_left an_Room_left cd_Room_left ct_Room_left), sl_Room_left⟩)
    (c_Room_left : PySem.W.codeIn K cd_Room_left "Room.left" = true)
    (k_Room_left : PySem.W.keepIn K (.ref f_Room_left) = true)
    (a_Room_cells : PySem.W.findIn K (.ref C_Room) "cells" = some (some (.ref f_Room_cells)))
    (i_Room_cells : PySem.W.isFn K (.ref f_Room_cells) = true)
    (l_Room_cells : K.lookup f_Room_cells = some ⟨oc_Room_cells, od_Room_cells, .func (PySem.W.fnOf "cells" "Room.cells" (defArgs s_Room_cells) (defBody s_Room_cells) (defScope s_Room_cells) .none kV_Room_cells dc_Room_cells pm_Room_cells an_Room_cells cd_Room_cells ct_Room_cells), sl_Room_cells⟩)
    (c_Room_cells : PySem.W.codeIn K cd_Room_cells "Room.cells" = true)
    (k_Room_cells : PySem.W.keepIn K (.ref f_Room_cells) = true)
    (a_Room_init : PySem.W.findIn K (.ref C_Room) "__init__" = some (some (.ref f_Room_init)))
    (i_Room_init : PySem.W.isFn K (.ref f_Room_init) = true)
    (l_Room_init : K.lookup f_Room_init = some ⟨oc_Room_init, od_Room_init, .func (PySem.W.fnOf "__init__" "Room.__init__" (defArgs s_Room_init) (defBody s_Room_init) (defScope s_Room_init) .none kV_Room_init dc_Room_init pm_Room_init an_Room_init cd_Room_init ct_Room_init), sl_Room_init⟩)
    (c_Room_init : PySem.W.codeIn K cd_Room_init "Room.__init__" = true)
    (k_Room_init : PySem.W.keepIn K (.ref f_Room_init) = true)
    (a_cells_of : PySem.W.nsIn K mainGlobals "cells_of" = some (some (.ref f_cells_of)))
    (l_cells_of : K.lookup f_cells_of = some ⟨oc_cells_of, od_cells_of, .func (PySem.W.fnOf "cells_of" "cells_of" (defArgs s_cells_of) (defBody s_cells_of) (defScope s_cells_of) .none kV_cells_of dc_cells_of pm_cells_of an_cells_of cd_cells_of ct_cells_of), sl_cells_of⟩)
    (c_cells_of : PySem.W.codeIn K cd_cells_of "cells_of" = true)
    (k_cells_of : PySem.W.keepIn K (.ref f_cells_of) = true)
    (a_word_of : PySem.W.nsIn K mainGlobals "word_of" = some (some (.ref f_word_of)))
    (l_word_of : K.lookup f_word_of = some ⟨oc_word_of, od_word_of, .func (PySem.W.fnOf "word_of" "word_of" (defArgs s_word_of) (defBody s_word_of) (defScope s_word_of) .none kV_word_of dc_word_of pm_word_of an_word_of cd_word_of ct_word_of), sl_word_of⟩)
    (c_word_of : PySem.W.codeIn K cd_word_of "word_of" = true)
    (k_word_of : PySem.W.keepIn K (.ref f_word_of) = true)
    (a_law_place : PySem.W.nsIn K mainGlobals "_law_place" = some (some (.ref f_law_place)))
    (l_law_place : K.lookup f_law_place = some ⟨oc_law_place, od_law_place, .func (PySem.W.fnOf "_law_place" "_law_place" (defArgs s_law_place) (defBody s_law_place) (defScope s_law_place) .none kV_law_place dc_law_place pm_law_place an_law_place cd_law_place ct_law_place), sl_law_place⟩)
    (c_law_place : PySem.W.codeIn K cd_law_place "_law_place" = true)
    (k_law_place : PySem.W.keepIn K (.ref f_law_place) = true)
    (a_shares : PySem.W.nsIn K mainGlobals "shares" = some (some (.ref f_shares)))
    (l_shares : K.lookup f_shares = some ⟨oc_shares, od_shares, .func (PySem.W.fnOf "shares" "shares" (defArgs s_shares) (defBody s_shares) (defScope s_shares) .none kV_shares dc_shares pm_shares an_shares cd_shares ct_shares), sl_shares⟩)
    (c_shares : PySem.W.codeIn K cd_shares "shares" = true)
    (k_shares : PySem.W.keepIn K (.ref f_shares) = true)
    (a_law_told : PySem.W.nsIn K mainGlobals "_law_told" = some (some (.ref f_law_told)))
    (l_law_told : K.lookup f_law_told = some ⟨oc_law_told, od_law_told, .func (PySem.W.fnOf "_law_told" "_law_told" (defArgs s_law_told) (defBody s_law_told) (defScope s_law_told) .none kV_law_told dc_law_told pm_law_told an_law_told cd_law_told ct_law_told), sl_law_told⟩)
    (c_law_told : PySem.W.codeIn K cd_law_told "_law_told" = true)
    (k_law_told : PySem.W.keepIn K (.ref f_law_told) = true)
    (a_law_same : PySem.W.nsIn K mainGlobals "_law_same" = some (some (.ref f_law_same)))
    (l_law_same : K.lookup f_law_same = some ⟨oc_law_same, od_law_same, .func (PySem.W.fnOf "_law_same" "_law_same" (defArgs s_law_same) (defBody s_law_same) (defScope s_law_same) .none kV_law_same dc_law_same pm_law_same an_law_same cd_law_same ct_law_same), sl_law_same⟩)
    (c_law_same : PySem.W.codeIn K cd_law_same "_law_same" = true)
    (k_law_same : PySem.W.keepIn K (.ref f_law_same) = true)
    (a_law_bad : PySem.W.nsIn K mainGlobals "_law_bad" = some (some (.ref f_law_bad)))
    (l_law_bad : K.lookup f_law_bad = some ⟨oc_law_bad, od_law_bad, .func (PySem.W.fnOf "_law_bad" "_law_bad" (defArgs s_law_bad) (defBody s_law_bad) (defScope s_law_bad) .none kV_law_bad dc_law_bad pm_law_bad an_law_bad cd_law_bad ct_law_bad), sl_law_bad⟩)
    (c_law_bad : PySem.W.codeIn K cd_law_bad "_law_bad" = true)
    (k_law_bad : PySem.W.keepIn K (.ref f_law_bad) = true)
    (a_law_all_doors : PySem.W.nsIn K mainGlobals "_law_all_doors" = some (some (.ref f_law_all_doors)))
    (l_law_all_doors : K.lookup f_law_all_doors = some ⟨oc_law_all_doors, od_law_all_doors, .func (PySem.W.fnOf "_law_all_doors" "_law_all_doors" (defArgs s_law_all_doors) (defBody s_law_all_doors) (defScope s_law_all_doors) .none kV_law_all_doors dc_law_all_doors pm_law_all_doors an_law_all_doors cd_law_all_doors ct_law_all_doors), sl_law_all_doors⟩)
    (c_law_all_doors : PySem.W.codeIn K cd_law_all_doors "_law_all_doors" = true)
    (k_law_all_doors : PySem.W.keepIn K (.ref f_law_all_doors) = true)
    (a_law_past : PySem.W.nsIn K mainGlobals "_law_past" = some (some (.ref f_law_past)))
    (l_law_past : K.lookup f_law_past = some ⟨oc_law_past, od_law_past, .func (PySem.W.fnOf "_law_past" "_law_past" (defArgs s_law_past) (defBody s_law_past) (defScope s_law_past) .none kV_law_past dc_law_past pm_law_past an_law_past cd_law_past ct_law_past), sl_law_past⟩)
    (c_law_past : PySem.W.codeIn K cd_law_past "_law_past" = true)
    (k_law_past : PySem.W.keepIn K (.ref f_law_past) = true)
    (a_law_no_room : PySem.W.nsIn K mainGlobals "_law_no_room" = some (some (.ref f_law_no_room)))
    (l_law_no_room : K.lookup f_law_no_room = some ⟨oc_law_no_room, od_law_no_room, .func (PySem.W.fnOf "_law_no_room" "_law_no_room" (defArgs s_law_no_room) (defBody s_law_no_room) (defScope s_law_no_room) .none kV_law_no_room dc_law_no_room pm_law_no_room an_law_no_room cd_law_no_room ct_law_no_room), sl_law_no_room⟩)
    (c_law_no_room : PySem.W.codeIn K cd_law_no_room "_law_no_room" = true)
    (k_law_no_room : PySem.W.keepIn K (.ref f_law_no_room) = true)
    (a_law : PySem.W.nsIn K mainGlobals "law" = some (some (.ref f_law)))
    (l_law : K.lookup f_law = some ⟨oc_law, od_law, .func (PySem.W.fnOf "law" "law" (defArgs s_law) (defBody s_law) (defScope s_law) .none kV_law dc_law pm_law an_law cd_law ct_law), sl_law⟩)
    (c_law : PySem.W.codeIn K cd_law "law" = true)
    (k_law : PySem.W.keepIn K (.ref f_law) = true)
    (n_bool : PySem.W.nsIn K mainGlobals "bool" = some none)
    (n_divmod : PySem.W.nsIn K mainGlobals "divmod" = some none)
    (n_int : PySem.W.nsIn K mainGlobals "int" = some none)
    (n_isinstance : PySem.W.nsIn K mainGlobals "isinstance" = some none)
    (n_len : PySem.W.nsIn K mainGlobals "len" = some none)
    (n_list : PySem.W.nsIn K mainGlobals "list" = some none)
    (n_max : PySem.W.nsIn K mainGlobals "max" = some none)
    (n_min : PySem.W.nsIn K mainGlobals "min" = some none)
    (n_range : PySem.W.nsIn K mainGlobals "range" = some none)
    (n_repr : PySem.W.nsIn K mainGlobals "repr" = some none)
    (n_reversed : PySem.W.nsIn K mainGlobals "reversed" = some none)
    (n_tuple : PySem.W.nsIn K mainGlobals "tuple" = some none)
    {t_CELL_BITS : Tok} (q_CELL_BITS : PySem.W.nsIn K mainGlobals "CELL_BITS" = some (some (.int 8 t_CELL_BITS)))
    {t_MOST_BITS : Tok} (q_MOST_BITS : PySem.W.nsIn K mainGlobals "MOST_BITS" = some (some (.int 512 t_MOST_BITS)))
    {t_TAG_BITS : Tok} (q_TAG_BITS : PySem.W.nsIn K mainGlobals "TAG_BITS" = some (some (.int 2 t_TAG_BITS)))
    {t_WIDEST_ROOM : Tok} (q_WIDEST_ROOM : PySem.W.nsIn K mainGlobals "WIDEST_ROOM" = some (some (.int 8192 t_WIDEST_ROOM)))
    (ne_NoRoom_NoPlace : (Value.ref C_NoRoom == Value.ref C_NoPlace) = false)
    : ∃ fd : FuncData, (∀ (s : Shared) (v : Value), BindsTo s fd ⟨[v], []⟩ [("_law_script", v)]) ∧ ∀ base : Heap, K.In base → base.Ns mainGlobals mg → FnOkG l.prog w K mg base CX0 8 fa fd ["_law_script"] (spLaw K) := by
  have e := hfa.symm.trans (PySem.W.mg_of X G a_law)
  cases e
  have F_law_cell := fun_mk (st := s_law_cell) l_law_cell c_law_cell k_law_cell
  have F_law_begun := fun_mk (st := s_law_begun) l_law_begun c_law_begun k_law_begun
  have F_law_draw := fun_mk (st := s_law_draw) l_law_draw c_law_draw k_law_draw
  have F_is_whole := fun_mk (st := s_is_whole) l_is_whole c_is_whole k_is_whole
  have F_is_within := fun_mk (st := s_is_within) l_is_within c_is_within k_is_within
  have F_NoPlace_init := fun_mk (st := s_NoPlace_init) l_NoPlace_init c_NoPlace_init k_NoPlace_init
  have F_NoRoom_init := fun_mk (st := s_NoRoom_init) l_NoRoom_init c_NoRoom_init k_NoRoom_init
  have F_is_place := fun_mk (st := s_is_place) l_is_place c_is_place k_is_place
  have F_last_cell := fun_mk (st := s_last_cell) l_last_cell c_last_cell k_last_cell
  have F_need_place := fun_mk (st := s_need_place) l_need_place c_need_place k_need_place
  have F_cells_in := fun_mk (st := s_cells_in) l_cells_in c_cells_in k_cells_in
  have F_Room_need_inside := fun_mk (st := s_Room_need_inside) l_Room_need_inside c_Room_need_inside k_Room_need_inside
  have F_Room_taken := fun_mk (st := s_Room_taken) l_Room_taken c_Room_taken k_Room_taken
  have F_Room_left := fun_mk (st := s_Room_left) l_Room_left c_Room_left k_Room_left
  have F_Room_cells := fun_mk (st := s_Room_cells) l_Room_cells c_Room_cells k_Room_cells
  have F_Room_init := fun_mk (st := s_Room_init) l_Room_init c_Room_init k_Room_init
  have F_cells_of := fun_mk (st := s_cells_of) l_cells_of c_cells_of k_cells_of
  have F_word_of := fun_mk (st := s_word_of) l_word_of c_word_of k_word_of
  have F_law_place := fun_mk (st := s_law_place) l_law_place c_law_place k_law_place
  have F_shares := fun_mk (st := s_shares) l_shares c_shares k_shares
  have F_law_told := fun_mk (st := s_law_told) l_law_told c_law_told k_law_told
  have F_law_same := fun_mk (st := s_law_same) l_law_same c_law_same k_law_same
  have F_law_bad := fun_mk (st := s_law_bad) l_law_bad c_law_bad k_law_bad
  have F_law_all_doors := fun_mk (st := s_law_all_doors) l_law_all_doors c_law_all_doors k_law_all_doors
  have F_law_past := fun_mk (st := s_law_past) l_law_past c_law_past k_law_past
  have F_law_no_room := fun_mk (st := s_law_no_room) l_law_no_room c_law_no_room k_law_no_room
  have F_law := fun_mk (st := s_law) l_law c_law k_law
  have c_CELL_BITS : ∃ t, mg "CELL_BITS" = some (.int 8 t) := ⟨_, PySem.W.mg_of X G q_CELL_BITS⟩
  have c_MOST_BITS : ∃ t, mg "MOST_BITS" = some (.int 512 t) := ⟨_, PySem.W.mg_of X G q_MOST_BITS⟩
  have c_TAG_BITS : ∃ t, mg "TAG_BITS" = some (.int 2 t) := ⟨_, PySem.W.mg_of X G q_TAG_BITS⟩
  have c_WIDEST_ROOM : ∃ t, mg "WIDEST_ROOM" = some (.int 8192 t) := ⟨_, PySem.W.mg_of X G q_WIDEST_ROOM⟩
  have z_bool : mg "bool" = none := PySem.W.mg_none_of X G n_bool
  have z_divmod : mg "divmod" = none := PySem.W.mg_none_of X G n_divmod
  have z_int : mg "int" = none := PySem.W.mg_none_of X G n_int
  have z_isinstance : mg "isinstance" = none := PySem.W.mg_none_of X G n_isinstance
  have z_len : mg "len" = none := PySem.W.mg_none_of X G n_len
  have z_list : mg "list" = none := PySem.W.mg_none_of X G n_list
  have z_max : mg "max" = none := PySem.W.mg_none_of X G n_max
  have z_min : mg "min" = none := PySem.W.mg_none_of X G n_min
  have z_range : mg "range" = none := PySem.W.mg_none_of X G n_range
  have z_repr : mg "repr" = none := PySem.W.mg_none_of X G n_repr
  have z_reversed : mg "reversed" = none := PySem.W.mg_none_of X G n_reversed
  have z_tuple : mg "tuple" = none := PySem.W.mg_none_of X G n_tuple
  have K_Room : Cls K C_Room := ⟨pg_Room, hd_Room, po_Room, sa_Room⟩
  have G_NoPlace : mg "NoPlace" = some (.ref C_NoPlace) := PySem.W.mg_of X G aC_NoPlace
  have O_NoPlace : OexC K C_NoPlace := ⟨⟨_, _, _, _, _, _, _, _, _, _, _, _, _, _, _, xL_NoPlace, rfl⟩, sa_NoPlace, eC_NoPlace, tC_NoPlace, kC_NoPlace⟩
  have Y_NoPlace : XfC K C_NoPlace := ⟨ga_NoPlace, gg_NoPlace, eC_NoPlace, hC_NoPlace⟩
  have G_NoRoom : mg "NoRoom" = some (.ref C_NoRoom) := PySem.W.mg_of X G aC_NoRoom
  have O_NoRoom : OexC K C_NoRoom := ⟨⟨_, _, _, _, _, _, _, _, _, _, _, _, _, _, _, xL_NoRoom, rfl⟩, sa_NoRoom, eC_NoRoom, tC_NoRoom, kC_NoRoom⟩
  have Y_NoRoom : XfC K C_NoRoom := ⟨ga_NoRoom, gg_NoRoom, eC_NoRoom, hC_NoRoom⟩
  have G_RoomError : mg "RoomError" = some (.ref C_RoomError) := PySem.W.mg_of X G aC_RoomError
  have R_RoomError : ClX.CRead K C_RoomError (.type "type") := ⟨rd_RoomError, sg_RoomError⟩
  have V_RoomError := vf_RoomError
  have B_NoPlace_found := nb_NoPlace_found
  have B_NoRoom_found := nb_NoRoom_found
  have E_NoPlace_NoPlace : PySem.W.exmOne K (.ref C_NoPlace) (.ref C_NoPlace) = some true := exm_of2 eC_NoPlace hC_NoPlace tC_NoPlace su_NoPlace_NoPlace
  have E_NoRoom_NoRoom : PySem.W.exmOne K (.ref C_NoRoom) (.ref C_NoRoom) = some true := exm_of2 eC_NoRoom hC_NoRoom tC_NoRoom su_NoRoom_NoRoom
  have I_NoRoom : ExcC K C_NoRoom := ⟨ga_NoRoom, gg_NoRoom, eC_NoRoom, hC_NoRoom, cl_NoRoom, oc_get, oc_tk, mo_NoRoom⟩
  have Q_NoRoom_NoPlace : PySem.W.kitOne K (.ref C_NoRoom) (.ref C_NoPlace) = some false := kit_no hC_NoPlace tC_NoPlace su_NoRoom_NoPlace ne_NoRoom_NoPlace
  have A_Room_filled : NoAttr K C_Room "filled" := nA_Room_filled
  have A_Room_wide : NoAttr K C_Room "wide" := nA_Room_wide
  refine ⟨PySem.W.fnOf "law" "law" (defArgs s_law) (defBody s_law) (defScope s_law) .none kV_law dc_law pm_law an_law cd_law ct_law, fun s v => .of_eq rfl, fun base _ _ => ?_⟩
  have D_law_cell : Dn l.prog w K mg base CX0 1 "_law_cell" ["_law_script", "_law_k"] (spCell K) := ⟨⟨_, _, ok_cell F_law_cell z_len, PySem.W.mg_of X G a_law_cell, k_law_cell, F_law_cell.binds (ps := ["_law_script", "_law_k"]) fun _ _ _ _ _ _ us hl => match us, hl with | [_, _], _ => rfl⟩⟩
  have D_law_begun : Dn l.prog w K mg base CX0 1 "_law_begun" ["_law_cell_here"] spBegun := ⟨⟨_, _, ok_begun F_law_begun, PySem.W.mg_of X G a_law_begun, k_law_begun, F_law_begun.binds (ps := ["_law_cell_here"]) fun _ _ _ _ _ _ us hl => match us, hl with | [_], _ => rfl⟩⟩
  have D_law_draw : Dn l.prog w K mg base CX0 1 "_law_draw" ["_law_state", "_law_many"] spDraw := ⟨⟨_, _, ok_draw F_law_draw, PySem.W.mg_of X G a_law_draw, k_law_draw, F_law_draw.binds (ps := ["_law_state", "_law_many"]) fun _ _ _ _ _ _ us hl => match us, hl with | [_, _], _ => rfl⟩⟩
  have D_is_whole : Dn l.prog w K mg base CX0 1 "is_whole" ["thing"] (spIsWhole K) := ⟨⟨_, _, ok_isWhole F_is_whole z_isinstance z_int z_bool, PySem.W.mg_of X G a_is_whole, k_is_whole, F_is_whole.binds (ps := ["thing"]) fun _ _ _ _ _ _ us hl => match us, hl with | [_], _ => rfl⟩⟩
  have D_is_within : Dn l.prog w K mg base CX0 2 "is_within" ["thing", "low", "high"] (spIsWithin K) := ⟨⟨_, _, ok_isWithin F_is_within D_is_whole, PySem.W.mg_of X G a_is_within, k_is_within, F_is_within.binds (ps := ["thing", "low", "high"]) fun _ _ _ _ _ _ us hl => match us, hl with | [_, _, _], _ => rfl⟩⟩
  have X_NoPlace : Xn l.prog w K mg base 1 C_NoPlace "NoPlace" ["self", "found"] (spX C_NoPlace ["found"]) := ⟨⟨O_NoPlace, Y_NoPlace⟩, ⟨_, _, a_NoPlace_init, t_NoPlace_init, ok_NoPlace F_NoPlace_init O_NoPlace G_RoomError R_RoomError V_RoomError B_NoPlace_found, G_NoPlace, F_NoPlace_init.binds (ps := ["self", "found"]) fun _ _ _ _ _ _ us hl => match us, hl with | [_, _], _ => rfl⟩⟩
  have X_NoRoom : Xn l.prog w K mg base 1 C_NoRoom "NoRoom" ["self", "found"] (spX C_NoRoom ["found"]) := ⟨⟨O_NoRoom, Y_NoRoom⟩, ⟨_, _, a_NoRoom_init, t_NoRoom_init, ok_NoRoom F_NoRoom_init O_NoRoom G_RoomError R_RoomError V_RoomError B_NoRoom_found, G_NoRoom, F_NoRoom_init.binds (ps := ["self", "found"]) fun _ _ _ _ _ _ us hl => match us, hl with | [_, _], _ => rfl⟩⟩
  have D_is_place : Dn l.prog w K mg base CX0 2 "is_place" ["thing"] (spIsPlace K) := ⟨⟨_, _, ok_isPlace F_is_place z_isinstance z_tuple z_len c_TAG_BITS c_CELL_BITS c_MOST_BITS D_is_whole, PySem.W.mg_of X G a_is_place, k_is_place, F_is_place.binds (ps := ["thing"]) fun _ _ _ _ _ _ us hl => match us, hl with | [_], _ => rfl⟩⟩
  have D_last_cell : Dn l.prog w K mg base CX0 1 "last_cell" ["place"] (spLastCell K) := ⟨⟨_, _, ok_lastCell F_last_cell c_CELL_BITS, PySem.W.mg_of X G a_last_cell, k_last_cell, F_last_cell.binds (ps := ["place"]) fun _ _ _ _ _ _ us hl => match us, hl with | [_], _ => rfl⟩⟩
  have D_need_place : Dn l.prog w K mg base (L2.CX l.prog w) 3 "need_place" ["thing"] (spNeed K C_NoPlace) := ⟨⟨_, _, ok_need F_need_place D_is_place X_NoPlace, PySem.W.mg_of X G a_need_place, k_need_place, F_need_place.binds (ps := ["thing"]) fun _ _ _ _ _ _ us hl => match us, hl with | [_], _ => rfl⟩⟩
  have D_cells_in : Dn l.prog w K mg base (L2.CX l.prog w) 4 "cells_in" ["place"] (spCellsInX K C_NoPlace) := ⟨⟨_, _, ok_cellsInX F_cells_in z_range D_need_place D_last_cell, PySem.W.mg_of X G a_cells_in, k_cells_in, F_cells_in.binds (ps := ["place"]) fun _ _ _ _ _ _ us hl => match us, hl with | [_], _ => rfl⟩⟩
  have N_Room_need_inside : Nn l.prog w K mg base (L2.CX l.prog w) 4 C_Room "need_inside" ["self", "place"] (spInside K C_Room C_NoPlace) := ⟨K_Room, ⟨_, _, ⟨a_Room_need_inside, i_Room_need_inside, k_Room_need_inside⟩, ok_inside F_Room_need_inside K_Room A_Room_wide D_need_place D_last_cell X_NoPlace, F_Room_need_inside.binds (ps := ["self", "place"]) fun _ _ _ _ _ _ us hl => match us, hl with | [_, _], _ => rfl⟩⟩
  have N_Room_cells : Nn l.prog w K mg base CX0 1 C_Room "cells" ["self"] (spCellsR C_Room) := ⟨K_Room, ⟨_, _, ⟨a_Room_cells, i_Room_cells, k_Room_cells⟩, ok_rcells F_Room_cells z_list K_Room A_Room_filled, F_Room_cells.binds (ps := ["self"]) fun _ _ _ _ _ _ us hl => match us, hl with | [_], _ => rfl⟩⟩
  have M_Room : Mn l.prog w K mg base (L2.CX l.prog w) 3 C_Room "Room" ["self", "wide"] (spRInit K C_Room C_NoRoom) := ⟨⟨_, _, ⟨mk_Room, a_Room_init, i_Room_init, kc_Room⟩, ok_rinit F_Room_init K_Room A_Room_wide A_Room_filled c_WIDEST_ROOM D_is_within X_NoRoom, PySem.W.mg_of X G aC_Room, F_Room_init.binds (ps := ["self", "wide"]) fun _ _ _ _ _ _ us hl => match us, hl with | [_, _], _ => rfl⟩⟩
  have D_cells_of : Dn l.prog w K mg base CX0 1 "cells_of" ["word", "width"] spCellsOf := ⟨⟨_, _, ok_cellsOf F_cells_of z_range z_divmod, PySem.W.mg_of X G a_cells_of, k_cells_of, F_cells_of.binds (ps := ["word", "width"]) fun _ _ _ _ _ _ us hl => match us, hl with | [_, _], _ => rfl⟩⟩
  have N_Room_left : Nn l.prog w K mg base (L2.CX l.prog w) 5 C_Room "left" ["self", "place", "number"] (spLeft K C_Room C_NoPlace) := ⟨K_Room, ⟨_, _, ⟨a_Room_left, i_Room_left, k_Room_left⟩, ok_left F_Room_left K_Room A_Room_filled c_TAG_BITS c_CELL_BITS N_Room_need_inside D_cells_of, F_Room_left.binds (ps := ["self", "place", "number"]) fun _ _ _ _ _ _ us hl => match us, hl with | [_, _, _], _ => rfl⟩⟩
  have D_word_of : Dn l.prog w K mg base CX0 1 "word_of" ["cells"] (spWordOf K) := ⟨⟨_, _, ok_wordOf F_word_of z_reversed, PySem.W.mg_of X G a_word_of, k_word_of, F_word_of.binds (ps := ["cells"]) fun _ _ _ _ _ _ us hl => match us, hl with | [_], _ => rfl⟩⟩
  have N_Room_taken : Nn l.prog w K mg base (L2.CX l.prog w) 5 C_Room "taken" ["self", "place"] (spTaken K C_Room C_NoPlace) := ⟨K_Room, ⟨_, _, ⟨a_Room_taken, i_Room_taken, k_Room_taken⟩, ok_taken F_Room_taken K_Room A_Room_filled c_TAG_BITS c_CELL_BITS N_Room_need_inside D_word_of, F_Room_taken.binds (ps := ["self", "place"]) fun _ _ _ _ _ _ us hl => match us, hl with | [_, _], _ => rfl⟩⟩
  have D_law_place : Dn l.prog w K mg base CX0 2 "_law_place" ["_law_state", "_law_wide"] spPlace := ⟨⟨_, _, ok_place F_law_place z_min D_law_draw, PySem.W.mg_of X G a_law_place, k_law_place, F_law_place.binds (ps := ["_law_state", "_law_wide"]) fun _ _ _ _ _ _ us hl => match us, hl with | [_, _], _ => rfl⟩⟩
  have D_shares : Dn l.prog w K mg base (L2.CX l.prog w) 4 "shares" ["one", "other"] (spShBad K C_NoPlace) := ⟨⟨_, _, ok_shBad F_shares c_CELL_BITS D_need_place, PySem.W.mg_of X G a_shares, k_shares, F_shares.binds (ps := ["one", "other"]) fun _ _ _ _ _ _ us hl => match us, hl with | [_, _], _ => rfl⟩⟩
  have D_law_told : Dn l.prog w K mg base CX0 6 "_law_told" ["_law_room", "_law_door", "_law_one", "_law_other"] (spTold K C_Room) := ⟨⟨_, _, ok_told F_law_told G_NoPlace G_RoomError Y_NoPlace B_NoPlace_found E_NoPlace_NoPlace D_need_place D_cells_in D_shares N_Room_taken N_Room_left, PySem.W.mg_of X G a_law_told, k_law_told, F_law_told.binds (ps := ["_law_room", "_law_door", "_law_one", "_law_other"]) fun _ _ _ _ _ _ us hl => match us, hl with | [_, _, _, _], _ => rfl⟩⟩
  have D_law_same : DnG l.prog w K mg base CX0 1 "_law_same" ["_law_told_here", "_law_thing"] (spSame K) := ⟨⟨_, _, ok_same F_law_same z_repr, PySem.W.mg_of X G a_law_same, k_law_same, F_law_same.binds (ps := ["_law_told_here", "_law_thing"]) fun _ _ _ _ _ _ us hl => match us, hl with | [_, _], _ => rfl⟩⟩
  have D_law_bad : Dn l.prog w K mg base CX0 3 "_law_bad" ["_law_state", "_law_wide"] (spBad K) := ⟨⟨_, _, ok_bad F_law_bad D_law_place D_law_draw, PySem.W.mg_of X G a_law_bad, k_law_bad, F_law_bad.binds (ps := ["_law_state", "_law_wide"]) fun _ _ _ _ _ _ us hl => match us, hl with | [_, _], _ => rfl⟩⟩
  have D_law_all_doors : DnG l.prog w K mg base CX0 7 "_law_all_doors" ["_law_state", "_law_room", "_law_bad_here", "_law_good"] (spDoors K C_Room) := ⟨⟨_, _, ok_doors F_law_all_doors z_range z_len D_law_draw D_law_told D_law_same, PySem.W.mg_of X G a_law_all_doors, k_law_all_doors, F_law_all_doors.binds (ps := ["_law_state", "_law_room", "_law_bad_here", "_law_good"]) fun _ _ _ _ _ _ us hl => match us, hl with | [_, _, _, _], _ => rfl⟩⟩
  have D_law_past : DnG l.prog w K mg base CX0 7 "_law_past" ["_law_state", "_law_room", "_law_wide"] (spPast K C_Room) := ⟨⟨_, _, ok_past F_law_past z_max z_min D_law_draw D_law_told D_law_same N_Room_taken N_Room_left, PySem.W.mg_of X G a_law_past, k_law_past, F_law_past.binds (ps := ["_law_state", "_law_room", "_law_wide"]) fun _ _ _ _ _ _ us hl => match us, hl with | [_, _, _], _ => rfl⟩⟩
  have D_law_no_room : DnG l.prog w K mg base CX0 5 "_law_no_room" ["_law_wide"] (spNoRoom K) := ⟨⟨_, _, ok_noRoom F_law_no_room z_repr z_isinstance G_NoRoom G_NoPlace Y_NoRoom B_NoRoom_found E_NoRoom_NoRoom I_NoRoom Q_NoRoom_NoPlace M_Room, PySem.W.mg_of X G a_law_no_room, k_law_no_room, F_law_no_room.binds (ps := ["_law_wide"]) fun _ _ _ _ _ _ us hl => match us, hl with | [_], _ => rfl⟩⟩
  exact ok_law F_law z_len z_max z_min z_range K_Room A_Room_wide D_law_cell D_law_begun D_law_draw D_law_place D_law_bad D_law_told D_law_same D_law_all_doors D_law_past D_law_no_room M_Room N_Room_left N_Room_cells
end K06
open PySem PySem.W PyProof.Rows
set_option maxHeartbeats 0 in
theorem PySem.Challenge.cw_roomslaid_k06_refused_everywhere_holds : PySem.Challenge.rw_roomslaid_k06_refused_everywhere.Holds := by
  w_on; o_law; k_head; (case hw => w_witness2)
  k_fill
  refine Rg.walk_ofG (l := PySem.Challenge.rw_roomslaid_k06_refused_everywhere) (n := 63) (k := 8) (x := "_law_script") (CX := fun _ => L2.CX0) (sp := fun w => K06.spLaw _) rfl (by decide) rfl ⟨rfl, by decide, by decide⟩ (fun w h Y => PySem.W.kIn_of Y) ?F (fun _ _ a ns hl _ hS => ⟨a, ns, rfl, hS, hl, fun _ => rfl⟩) (fun _ _ _ _ _ h => h)
  case F =>
    intro w mg fa h KX G hmg
    refine' K06.all_mk KX G hmg ?aC_NoPlace ?eC_NoPlace ?tC_NoPlace ?hC_NoPlace ?xL_NoPlace ?sa_NoPlace ?ga_NoPlace ?gg_NoPlace ?kC_NoPlace ?aC_NoRoom ?eC_NoRoom ?tC_NoRoom ?hC_NoRoom ?xL_NoRoom ?sa_NoRoom ?ga_NoRoom ?gg_NoRoom ?kC_NoRoom ?aC_RoomError ?eC_RoomError ?tC_RoomError ?hC_RoomError ?rd_RoomError ?sg_RoomError ?vf_RoomError ?nb_NoPlace_found ?nb_NoRoom_found ?oc_get ?oc_tk ?cl_NoRoom ?mo_NoRoom ?su_NoPlace_NoPlace ?su_NoRoom_NoPlace ?su_NoRoom_NoRoom ?aC_Room ?pg_Room ?hd_Room ?po_Room ?sa_Room ?mk_Room ?kc_Room ?nA_Room_filled ?nA_Room_wide ?a_law_cell ?l_law_cell ?c_law_cell ?k_law_cell ?a_law_begun ?l_law_begun ?c_law_begun ?k_law_begun ?a_law_draw ?l_law_draw ?c_law_draw ?k_law_draw ?a_is_whole ?l_is_whole ?c_is_whole ?k_is_whole ?a_is_within ?l_is_within ?c_is_within ?k_is_within ?a_NoPlace_init ?t_NoPlace_init ?l_NoPlace_init ?c_NoPlace_init ?k_NoPlace_init ?a_NoRoom_init ?t_NoRoom_init ?l_NoRoom_init ?c_NoRoom_init ?k_NoRoom_init ?a_is_place ?l_is_place ?c_is_place ?k_is_place ?a_last_cell ?l_last_cell ?c_last_cell ?k_last_cell ?a_need_place ?l_need_place ?c_need_place ?k_need_place ?a_cells_in ?l_cells_in ?c_cells_in ?k_cells_in ?a_Room_need_inside ?i_Room_need_inside ?l_Room_need_inside ?c_Room_need_inside ?k_Room_need_inside ?a_Room_taken ?i_Room_taken ?l_Room_taken ?c_Room_taken ?k_Room_taken ?a_Room_left ?i_Room_left ?l_Room_left ?c_Room_left ?k_Room_left ?a_Room_cells ?i_Room_cells ?l_Room_cells ?c_Room_cells ?k_Room_cells ?a_Room_init ?i_Room_init ?l_Room_init ?c_Room_init ?k_Room_init ?a_cells_of ?l_cells_of ?c_cells_of ?k_cells_of ?a_word_of ?l_word_of ?c_word_of ?k_word_of ?a_law_place ?l_law_place ?c_law_place ?k_law_place ?a_shares ?l_shares ?c_shares ?k_shares ?a_law_told ?l_law_told ?c_law_told ?k_law_told ?a_law_same ?l_law_same ?c_law_same ?k_law_same ?a_law_bad ?l_law_bad ?c_law_bad ?k_law_bad ?a_law_all_doors ?l_law_all_doors ?c_law_all_doors ?k_law_all_doors ?a_law_past ?l_law_past ?c_law_past ?k_law_past ?a_law_no_room ?l_law_no_room ?c_law_no_room ?k_law_no_room ?a_law ?l_law ?c_law ?k_law ?n_bool ?n_divmod ?n_int ?n_isinstance ?n_len ?n_list ?n_max ?n_min ?n_range ?n_repr ?n_reversed ?n_tuple ?q_CELL_BITS ?q_MOST_BITS ?q_TAG_BITS ?q_WIDEST_ROOM ?ne_NoRoom_NoPlace
    (case aC_NoPlace => k_is)
    (case eC_NoPlace => k_is)
    (case tC_NoPlace => k_is)
    (case hC_NoPlace => k_is)
    (case xL_NoPlace => k_is)
    (case sa_NoPlace => k_is)
    (case ga_NoPlace => k_is)
    (case gg_NoPlace => k_is)
    (case kC_NoPlace => k_is)
    (case aC_NoRoom => k_is)
    (case eC_NoRoom => k_is)
    (case tC_NoRoom => k_is)
    (case hC_NoRoom => k_is)
    (case xL_NoRoom => k_is)
    (case sa_NoRoom => k_is)
    (case ga_NoRoom => k_is)
    (case gg_NoRoom => k_is)
    (case kC_NoRoom => k_is)
    (case aC_RoomError => k_is)
    (case eC_RoomError => k_is)
    (case tC_RoomError => k_is)
    (case hC_RoomError => k_is)
    (case rd_RoomError => k_is)
    (case sg_RoomError => k_is)
    (case vf_RoomError => k_is)
    (case nb_NoPlace_found => k_is)
    (case nb_NoRoom_found => k_is)
    (case oc_get => k_is)
    (case oc_tk => k_is)
    (case cl_NoRoom => k_is)
    (case mo_NoRoom => k_is)
    (case su_NoPlace_NoPlace => k_is)
    (case su_NoRoom_NoPlace => k_is)
    (case su_NoRoom_NoRoom => k_is)
    (case aC_Room => k_is)
    (case pg_Room => k_is)
    (case hd_Room => k_is)
    (case po_Room => k_is)
    (case sa_Room => k_is)
    (case mk_Room => k_is)
    (case kc_Room => k_is)
    (case nA_Room_filled => k_is)
    (case nA_Room_wide => k_is)
    (case a_law_cell => k_is)
    (case l_law_cell => k_is)
    (case c_law_cell => k_is)
    (case k_law_cell => k_is)
    (case a_law_begun => k_is)
    (case l_law_begun => k_is)
    (case c_law_begun => k_is)
    (case k_law_begun => k_is)
    (case a_law_draw => k_is)
    (case l_law_draw => k_is)
    (case c_law_draw => k_is)
    (case k_law_draw => k_is)
    (case a_is_whole => k_is)
    (case l_is_whole => k_is)
    (case c_is_whole => k_is)
    (case k_is_whole => k_is)
    (case a_is_within => k_is)
    (case l_is_within => k_is)
    (case c_is_within => k_is)
    (case k_is_within => k_is)
    (case a_NoPlace_init => k_is)
    (case t_NoPlace_init => k_is)
    (case l_NoPlace_init => k_is)
    (case c_NoPlace_init => k_is)
    (case k_NoPlace_init => k_is)
    (case a_NoRoom_init => k_is)
    (case t_NoRoom_init => k_is)
    (case l_NoRoom_init => k_is)
    (case c_NoRoom_init => k_is)
    (case k_NoRoom_init => k_is)
    (case a_is_place => k_is)
    (case l_is_place => k_is)
    (case c_is_place => k_is)
    (case k_is_place => k_is)
    (case a_last_cell => k_is)
    (case l_last_cell => k_is)
    (case c_last_cell => k_is)
    (case k_last_cell => k_is)
    (case a_need_place => k_is)
    (case l_need_place => k_is)
    (case c_need_place => k_is)
    (case k_need_place => k_is)
    (case a_cells_in => k_is)
    (case l_cells_in => k_is)
    (case c_cells_in => k_is)
    (case k_cells_in => k_is)
    (case a_Room_need_inside => k_is)
    (case i_Room_need_inside => k_is)
    (case l_Room_need_inside => k_is)
    (case c_Room_need_inside => k_is)
    (case k_Room_need_inside => k_is)
    (case a_Room_taken => k_is)
    (case i_Room_taken => k_is)
    (case l_Room_taken => k_is)
    (case c_Room_taken => k_is)
    (case k_Room_taken => k_is)
    (case a_Room_left => k_is)
    (case i_Room_left => k_is)
    (case l_Room_left => k_is)
    (case c_Room_left => k_is)
    (case k_Room_left => k_is)
    (case a_Room_cells => k_is)
    (case i_Room_cells => k_is)
    (case l_Room_cells => k_is)
    (case c_Room_cells => k_is)
    (case k_Room_cells => k_is)
    (case a_Room_init => k_is)
    (case i_Room_init => k_is)
    (case l_Room_init => k_is)
    (case c_Room_init => k_is)
    (case k_Room_init => k_is)
    (case a_cells_of => k_is)
    (case l_cells_of => k_is)
    (case c_cells_of => k_is)
    (case k_cells_of => k_is)
    (case a_word_of => k_is)
    (case l_word_of => k_is)
    (case c_word_of => k_is)
    (case k_word_of => k_is)
    (case a_law_place => k_is)
    (case l_law_place => k_is)
    (case c_law_place => k_is)
    (case k_law_place => k_is)
    (case a_shares => k_is)
    (case l_shares => k_is)
    (case c_shares => k_is)
    (case k_shares => k_is)
    (case a_law_told => k_is)
    (case l_law_told => k_is)
    (case c_law_told => k_is)
    (case k_law_told => k_is)
    (case a_law_same => k_is)
    (case l_law_same => k_is)
    (case c_law_same => k_is)
    (case k_law_same => k_is)
    (case a_law_bad => k_is)
    (case l_law_bad => k_is)
    (case c_law_bad => k_is)
    (case k_law_bad => k_is)
    (case a_law_all_doors => k_is)
    (case l_law_all_doors => k_is)
    (case c_law_all_doors => k_is)
    (case k_law_all_doors => k_is)
    (case a_law_past => k_is)
    (case l_law_past => k_is)
    (case c_law_past => k_is)
    (case k_law_past => k_is)
    (case a_law_no_room => k_is)
    (case l_law_no_room => k_is)
    (case c_law_no_room => k_is)
    (case k_law_no_room => k_is)
    (case a_law => k_is)
    (case l_law => k_is)
    (case c_law => k_is)
    (case k_law => k_is)
    (case n_bool => k_is)
    (case n_divmod => k_is)
    (case n_int => k_is)
    (case n_isinstance => k_is)
    (case n_len => k_is)
    (case n_list => k_is)
    (case n_max => k_is)
    (case n_min => k_is)
    (case n_range => k_is)
    (case n_repr => k_is)
    (case n_reversed => k_is)
    (case n_tuple => k_is)
    (case q_CELL_BITS => k_is)
    (case q_MOST_BITS => k_is)
    (case q_TAG_BITS => k_is)
    (case q_WIDEST_ROOM => k_is)
    (case ne_NoRoom_NoPlace => decide +kernel)
