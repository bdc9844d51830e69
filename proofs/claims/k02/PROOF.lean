import PyProof.Rows.All
import Wide.All
import OpenK.AllK
import Wide.FinOn
import HandS.ForMost
import HandS.NoneIn
import HandS.IsInst
import HandS.Wide
import HandS.WideBits
import HandS.More
import HandS.SetFor
import PyProof.LongRange
import HandS.Zip
import HandS.Style
import HandS.Text
import HandS.Codes
import HandS.StrMore
import HandS.WordsExc
import PySem.Challenge.RW_roomslaid_k02_names_and_numbers
set_option Elab.async false
set_option linter.all false
set_option maxRecDepth 100000
set_option maxHeartbeats 4000000
/-! my base: short calls, heaps, readings by simp -/
namespace Rb
open PySem PySem.Spec PyProof.Rows L2

/-! ### a def of the text with its promise -/
structure Dn (P : Program) (w : World) (K : PySem.W.Frag) (mg : Str → Option Value) (base : Heap) (CX : CXT) (k : Nat) (x : Str) (ps : List Str) (sp : Sp) : Prop where
  ex : ∃ f fd, FnOk P w K mg base CX k f fd ps sp ∧ mg x = some (.ref f) ∧ PySem.W.keepIn K (.ref f) = true ∧ Binds K fd ps []
section
variable {X : Cx} {CX : CXT} {k : Nat} {ps : List Str} {sp : Sp} {E : XK} {x : Str} {p pos : Pos} {e : Expr} {es : List Expr} {t : TA}
theorem pe_cd (D : Dn X.prog X.w X.K X.mg X.base CX k x ps sp) (hr : Room k X.A) (hg : Gl X x) (hx : Passes CX X E) (ha : PA X (e :: es) t)
    (hdb : (x == ("__debug__" : Str)) = false := by decide) (he : starEach (e :: es) X.env = (false, eval e X.env) :: starEach es X.env := by rfl) (hpl : (backTo pos (starEach es X.env)).any (·.1) = false := by rfl) :
    PE X (.Call (.Name x p) (e :: es) [] pos) (tCall sp [] E t) := by
  obtain ⟨f, fd, F, m, kp, b⟩ := D.ex
  exact pe_call F hr hg m kp b .nil hx ha hdb he hpl
theorem pe_cd0 (D : Dn X.prog X.w X.K X.mg X.base CX k x ps sp) (hr : Room k X.A) (hg : Gl X x) (hx : Passes CX X E)
    (hdb : (x == ("__debug__" : Str)) = false := by decide) : PE X (.Call (.Name x p) [] [] pos) (tCall sp [] E tNil) := by
  obtain ⟨f, fd, F, m, kp, b⟩ := D.ex
  exact pe_call0 F hr hg m kp b .nil hx hdb
end

/-! ### heaps -/
/-- all but a is as it was -/
def Off (a : Addr) (H H' : Hp) : Prop := ∀ b o, b ≠ a → H b = some o → H' b = some o
theorem Off.refl {a : Addr} (H : Hp) : Off a H H := fun _ _ _ h => h
theorem Off.trans {a : Addr} {H H1 H2 : Hp} (p : Off a H H1) (q : Off a H1 H2) : Off a H H2 := fun b o n h => q b o n (p b o n h)
theorem Off.of {a : Addr} {H H' : Hp} (s : Same H H') : Off a H H' := fun b o _ h => s b o h
theorem Off.upd {a : Addr} {H : Hp} {o : HO} : Off a H (upd H a o) := fun b u n h => by rw [upd_ne n]; exact h
theorem Off.at {a b : Addr} {H H' : Hp} {o u : HO} (f : Off a H H') (h : H b = some o) (ha : H a = some u) (ne : o ≠ u) : H' b = some o := f b o (ne_of h ha ne) h
theorem same_new {H : Hp} {p : Addr} {o : HO} (h : H p = none) : Same H (upd H p o) := fun b u e => by rw [upd_ne (ne_of_none e h)]; exact e
/-- a new object: its place, the heap from then on -/
theorem new_intro {H : Hp} {o : HO} {Q : VK} (h : ∀ p H1, H p = none → Same H H1 → H1 p = some o → Q (.ref p) H1) : ∀ p, H p = none → Q (.ref p) (upd H p o) := fun p hp => h p _ hp (same_new hp) upd_same
theorem Same.rd {H H' : Hp} {a : Addr} {u : HO} (s : Same H H') (h : Rd H a u) : Rd H' a u := by
  rcases h with h | ⟨o, h⟩
  · exact .inl (s _ _ h)
  · exact .inr ⟨o, s _ _ h⟩
theorem Same.seqT {K : PySem.W.Frag} {H H' : Hp} {a : Addr} {xs : List V} (e : Same H H') (h : SqT K H a xs) : SqT K H' a xs := by
  rcases h with h | h
  · exact .inl (Same.rd e h)
  · exact .inr h
theorem seq_of {K : PySem.W.Frag} {H : Hp} {a : Addr} {xs : List V} (h : H a = some (.lst xs)) : SqL K H a xs := .inl (.inl h)
theorem seqT_of {K : PySem.W.Frag} {H : Hp} {a : Addr} {xs : List V} (h : H a = some (.tup xs)) : SqT K H a xs := .inl (.inl h)
theorem Off.seq {K : PySem.W.Frag} {a b : Addr} {H H' : Hp} {xs ys : List V} (f : Off a H H') (h : SqL K H b xs) (ha : H a = some (.lst ys)) (hb : b ≠ a) : SqL K H' b xs := by
  rcases h with (h | ⟨o, h⟩) | h
  · exact .inl (.inl (f _ _ hb h))
  · exact .inl (.inr ⟨o, f _ _ hb h⟩)
  · exact .inr h
theorem Off.frz {a b : Addr} {H H' : Hp} {o : Obj} {u : HO} {ys : List V} (f : Off a H H') (h : H b = some (.frz o u)) (ha : H a = some (.lst ys)) : H' b = some (.frz o u) := f.at h ha (by intro z; cases z)
/-- made since H, changed as one likes -/
theorem Same.mut {H H' : Hp} {p : Addr} {o : HO} (s : Same H H') (h : H p = none) : Same H (upd H' p o) := fun b u e => by rw [upd_ne (ne_of_none e h)]; exact s b u e
theorem Same.off {a : Addr} {H H1 H2 : Hp} (s : Same H H1) (h : H a = none) (f : Off a H1 H2) : Same H H2 := fun b u e => f b u (ne_of_none e h) (s b u e)
theorem none_back {H H' : Hp} {p : Addr} (s : Same H H') (h : H' p = none) : H p = none := s.free h
theorem Off.none {a p : Addr} {H H' : Hp} {u : HO} (f : Off a H H') (ha : H a = some u) (ha' : H' p = Option.none) (h' : ∃ o, H' a = some o) : H p = Option.none := by
  cases q : H p with
  | none => rfl
  | some o =>
    by_cases e : p = a
    · subst e
      obtain ⟨o', h'⟩ := h'
      rw [h'] at ha'; cases ha'
    · rw [f p o e q] at ha'; cases ha'
/-! ### what comes new, what is changed: told by letters -/
def New (H : Hp) (o : HO) (R : Addr → Hp → Prop) : Prop := ∀ p, H p = none → R p (upd H p o)
theorem New.intro {H : Hp} {o : HO} {R : Addr → Hp → Prop} (h : ∀ p H2, H p = none → Same H H2 → H2 p = some o → R p H2) : New H o R := fun p hp => h p _ hp (same_new hp) upd_same
def Upd (H : Hp) (a : Addr) (o : HO) (R : Hp → Prop) : Prop := R (upd H a o)
theorem Upd.intro {H : Hp} {a : Addr} {o : HO} {R : Hp → Prop} (h : ∀ H2, Off a H H2 → H2 a = some o → R H2) : Upd H a o R := h _ Off.upd upd_same
def Loop (J : It) (g : TG) (tb : TS) (D : Ends) (σ : L2.St) (H : Hp) : Prop := ∃ W : Nat → Nat → L2.St → Hp → Prop, (∃ m, W 0 m σ H) ∧ ∀ i m σ H, W i m σ H →
  (J.stop i H ∧ D.nx σ H) ∨ (J.go i H ∧ ∃ N : L2.St → Hp → Prop, (∀ σ' H', N σ' H' → ∃ m', m' < m ∧ W (i + 1) m' σ' H') ∧ ∀ x H', J.yld i H x H' → g x σ H' fun σ2 H2 => tb { D with nx := N, ct := N, bk := D.nx } σ2 H2)
def Cmp (J : It) (g : TG) (tt : TT) (te : TE) (vs : List Nat) (σ : L2.St) (H1 : Hp) (Q : VK) : Prop := ∀ D, H1 D = none → ∃ W : Nat → Nat → Hp → Prop, (∃ m, W 0 m (upd H1 D (.lst []))) ∧ ∀ i m H, W i m H →
  (J.stop i H ∧ Q (.ref D) H) ∨ (J.go i H ∧ ∃ Nx : Hp → Prop, (∀ H', Nx H' → ∃ m', m' < m ∧ W (i + 1) m' H') ∧ ∀ x H', J.yld i H x H' → g x (wipe σ vs) H' fun σ2 H2 => wipe σ2 vs = wipe σ vs ∧ tt σ2 H2 fun b H3 =>
    if b = true then te σ2 H3 fun y H4 => ∃ acc, H4 D = some (.lst acc) ∧ acc.length < sizeLine ∧ Nx (upd H4 D (.lst (acc ++ [y]))) else Nx H3)
theorem tTup_n {t : TA} : tTup t = fun σ H Q => t σ H fun xs H1 => xs.length ≤ sizeLine ∧ New H1 (.tup xs) fun p H2 => Q (.ref p) H2 := rfl
theorem tLst_n {t : TA} : tLst t = fun σ H Q => t σ H fun xs H1 => xs.length ≤ sizeLine ∧ New H1 (.lst xs) fun p H2 => Q (.ref p) H2 := rfl
theorem rSlL_n {K : PySem.W.Frag} : rSlL K = fun x lo hi H Q => ∃ a xs, x = .ref a ∧ SqL K H a xs ∧ New H (.lst (cutV xs lo hi)) fun p H2 => Q (.ref p) H2 := rfl
theorem rAppend_n : rAppend = fun x vs H Q => ∃ l xs y, x = .ref l ∧ vs = [y] ∧ H l = some (.lst xs) ∧ xs.length < sizeLine ∧ Upd H l (.lst (xs ++ [y])) fun H2 => Q .non H2 := rfl
theorem rExtend_n : rExtend = fun x vs H Q => ∃ l b xs zs, x = .ref l ∧ vs = [.ref b] ∧ H l = some (.lst xs) ∧ H b = some (.lst zs) ∧ xs.length + zs.length ≤ sizeLine ∧ Upd H l (.lst (xs ++ zs)) fun H2 => Q .non H2 := rfl
theorem rPop_n : rPop = fun x vs H Q => ∃ l xs y, x = .ref l ∧ vs = [] ∧ H l = some (.lst xs) ∧ xs[xs.length - 1]? = some y ∧ Upd H l (.lst xs.dropLast) fun H2 => Q y H2 := rfl
theorem rClear_n : rClear = fun x vs H Q => ∃ l xs, x = .ref l ∧ vs = [] ∧ H l = some (.lst xs) ∧ Upd H l (.lst []) fun H2 => Q .non H2 := rfl
theorem rSetL_n : rSetL = fun o i v H Q => ∃ p xs k j, o = .ref p ∧ i = .int k ∧ H p = some (.lst xs) ∧ ixN xs.length k = some j ∧ Upd H p (.lst (xs.set j v)) fun H2 => Q H2 := rfl
theorem tFor_n {wi : TI} {g : TG} {tb : TS} : tFor wi g tb = fun D σ H => wi σ H fun J H1 => Loop J g tb D σ H1 := rfl
theorem tLc_n {wi : TI} {g : TG} {tt : TT} {te : TE} {vs : List Nat} : tLc wi g tt te vs = fun σ H Q => wi σ H fun J H1 => Cmp J g tt te vs σ H1 Q := rfl
/-! built-ins, by letters -/
def rDivmod : List V → Hp → VK → Prop := fun xs H Q => ∃ i j, xs = [.int i, .int j] ∧ CDiv i j ∧ New H (.tup [.int (i / j), .int (i % j)]) fun p H2 => Q (.ref p) H2
theorem call_divmodR {X : Cx} : CallR X (.builtin "divmod") rDivmod := call_divmod
def rListOf (K : PySem.W.Frag) : List V → Hp → VK → Prop := fun xs H Q => ∃ p ys, xs = [.ref p] ∧ (SqL K H p ys ∨ SqT K H p ys) ∧ New H (.lst ys) fun l H2 => Q (.ref l) H2
theorem call_listR {X : Cx} {K : PySem.W.Frag} (h : X.K = K := by rfl) : CallR X (.type "list") (rListOf K) := by subst h; exact call_list_of
def rTupOf (K : PySem.W.Frag) : List V → Hp → VK → Prop := fun xs H Q => ∃ p ys, xs = [.ref p] ∧ ((SqL K H p ys ∧ New H (.tup ys) fun l H2 => Q (.ref l) H2) ∨ (SqT K H p ys ∧ Q (.ref p) H))
theorem call_tupR {X : Cx} {K : PySem.W.Frag} (h : X.K = K := by rfl) : CallR X (.type "tuple") (rTupOf K) := by subst h; exact call_tuple_of
def rLenSeq (K : PySem.W.Frag) : List V → Hp → VK → Prop := fun xs H Q => ∃ p ys, xs = [.ref p] ∧ (SqL K H p ys ∨ SqT K H p ys) ∧ Q (.int ys.length) H
theorem call_lenR {X : Cx} {K : PySem.W.Frag} (h : X.K = K := by rfl) : CallR X (.builtin "len") (rLenSeq K) := by subst h; exact call_len_seq
def rMin2 : List V → Hp → VK → Prop := fun xs H Q => ∃ i j, xs = [.int i, .int j] ∧ Q (.int (if j < i then j else i)) H
def rMax2 : List V → Hp → VK → Prop := fun xs H Q => ∃ i j, xs = [.int i, .int j] ∧ Q (.int (if j > i then j else i)) H
theorem call_min2R {X : Cx} (hc : X.calm = true) : CallR X (.builtin "min") rMin2 := call_min2 hc
theorem call_max2R {X : Cx} (hc : X.calm = true) : CallR X (.builtin "max") rMax2 := call_max2 hc

theorem snocI {α : Type} {P : List α → Prop} (h0 : P []) (h1 : ∀ xs x, P xs → P (xs ++ [x])) (l : List α) : P l := by
  have h : ∀ r : List α, P r.reverse := fun r => by
    induction r with
    | nil => exact h0
    | cons x r ih =>
      rw [List.reverse_cons]
      exact h1 _ _ ih
  rw [← List.reverse_reverse l]
  exact h _
/-! ### kinds of things -/
def kinds : List String := ["NoneType", "bool", "int", "str", "list", "tuple", "dict"]
def kindIs (T U : String) : Bool := T == U || (T == "bool" && U == "int")
theorem kd_all : ∀ T ∈ kinds, ∀ U ∈ ["bool", "int", "str", "list", "tuple", "dict"], kitB T U = some (kindIs T U) := by decide +kernel
def Thg (K : PySem.W.Frag) (H : Hp) (x : V) (T : String) : Prop := TyX K H x (.type T) ∧ T ∈ kinds
def isWh : V → Bool
  | .int _ => true
  | _ => false
theorem isi {K : PySem.W.Frag} {H : Hp} {x : V} {T U : String} {b : Bool} {R : Bool → Prop} (ty : TyX K H x (.type T)) (h : kitB T U = some b) (q : R b) : ∃ (t u : Value), ClsV (.ty U) u ∧ TyX K H x t ∧ ∃ b', PySem.W.kitOne K t u = some b' ∧ R b' :=
  ⟨_, _, .ty U, ty, b, kit_ty h, q⟩
/-- isinstance of any thing -/
theorem isiT {K : PySem.W.Frag} {H : Hp} {x : V} {T U : String} {R : Bool → Prop} (t : Thg K H x T) (hU : U ∈ ["bool", "int", "str", "list", "tuple", "dict"]) (q : R (kindIs T U)) : ∃ (t u : Value), ClsV (.ty U) u ∧ TyX K H x t ∧ ∃ b', PySem.W.kitOne K t u = some b' ∧ R b' :=
  isi t.1 (kd_all T t.2 U hU) q
theorem thg_int {K : PySem.W.Frag} {H : Hp} {i : Int} : Thg K H (.int i) "int" := ⟨.base (.int i), by decide⟩
theorem thg_bl {K : PySem.W.Frag} {H : Hp} {b : Bool} : Thg K H (.bl b) "bool" := ⟨.base (.bl b), by decide⟩
theorem thg_non {K : PySem.W.Frag} {H : Hp} : Thg K H .non "NoneType" := ⟨.base .non, by decide⟩
theorem thg_str {K : PySem.W.Frag} {H : Hp} {z : Str} : Thg K H (.str z) "str" := ⟨.base (.str z), by decide⟩
theorem thg_lst {K : PySem.W.Frag} {H : Hp} {a : Addr} {xs : List V} (h : H a = some (.lst xs)) : Thg K H (.ref a) "list" := ⟨.base (.lst h), by decide⟩
theorem thg_dK {K : PySem.W.Frag} {H : Hp} {a : Addr} {xs : List (Key × V)} (h : H a = some (.dK xs)) : Thg K H (.ref a) "dict" := ⟨.base (.dK h), by decide⟩
theorem thg_tup {K : PySem.W.Frag} {H : Hp} {a : Addr} {xs : List V} (h : SqT K H a xs) : Thg K H (.ref a) "tuple" := by
  refine ⟨?_, by decide⟩
  rcases h with (h | ⟨o, h⟩) | ⟨o, _, _, h, hc, _⟩
  · exact .base (.tup h)
  · exact .fTuple h
  · exact .kTuple h hc
theorem thg_seq {K : PySem.W.Frag} {H : Hp} {a : Addr} {xs : List V} (h : SqL K H a xs) : Thg K H (.ref a) "list" := by
  refine ⟨?_, by decide⟩
  rcases h with (h | ⟨o, h⟩) | ⟨o, _, _, h, hc, _⟩
  · exact .base (.lst h)
  · exact .base (.frz h)
  · exact .kList h hc
/-- whole numbers and no others are of the kind int alone -/
theorem isWh_of {K : PySem.W.Frag} {H : Hp} {x : V} {T : String} (t : Thg K H x T) : (kindIs T "int" && !kindIs T "bool") = isWh x := by
  obtain ⟨ty, hT⟩ := t
  generalize hc : Value.type T = c at ty
  cases ty with
  | base b =>
    cases b with
    | ins e cl ha hn htk hm => cases hc
    | _ => cases hc; rfl
  | byt b =>
    cases hc
    exact absurd hT (by decide)
  | set e =>
    cases hc
    exact absurd hT (by decide)
  | kList e c => cases hc; rfl
  | kTuple e c => cases hc; rfl
  | kDict e c => cases hc; rfl
  | fTuple e => cases hc; rfl
  | fDict e => cases hc; rfl
/-! ### constants of the module -/
theorem pe_gi {X : Cx} {x : Str} {v : Int} {pos : Pos} (hg : Gl X x) (hm : ∃ t, X.mg x = some (.int v t)) (hd : (x == ("__debug__" : Str)) = false := by decide) : PE X (.Name x pos) (tC (.int v)) := by
  obtain ⟨t, hm⟩ := hm
  exact pe_glob hg hm ⟨t, rfl⟩ hd
theorem pe_gs {X : Cx} {x v : Str} {pos : Pos} (hg : Gl X x) (hm : ∃ t, X.mg x = some (.str v t)) (hd : (x == ("__debug__" : Str)) = false := by decide) : PE X (.Name x pos) (tC (.str v)) := by
  obtain ⟨t, hm⟩ := hm
  exact pe_glob hg hm ⟨t, rfl⟩ hd
/-! ### tuples in a list -/
def Tups (K : PySem.W.Frag) (H : Hp) : List V → List (List V) → Prop := Paired fun x d => ∃ a, x = .ref a ∧ SqT K H a d
theorem Tups.same {K : PySem.W.Frag} {H H' : Hp} {xs : List V} {ds : List (List V)} (t : Tups K H xs ds) (s : Same H H') : Tups K H' xs ds := Paired.mapP t fun x d ⟨a, e, h⟩ => ⟨a, e, Same.seqT s h⟩
theorem Tups.get {K : PySem.W.Frag} {H : Hp} : ∀ {xs : List V} {ds : List (List V)} {i : Nat} {x : V}, Tups K H xs ds → xs[i]? = some x → ∃ a d, ds[i]? = some d ∧ x = .ref a ∧ SqT K H a d
  | _, _, _, _, .nil, e => by simp at e
  | _, _, 0, _, .cons ⟨a, e1, h⟩ _, e => by
    cases e
    exact ⟨a, _, rfl, e1, h⟩
  | _, _, i + 1, x, .cons _ t, e => Tups.get (i := i) t (by simpa using e)
theorem Tups.append {K : PySem.W.Frag} {H : Hp} : ∀ {xs ys : List V} {ds es : List (List V)}, Tups K H xs ds → Tups K H ys es → Tups K H (xs ++ ys) (ds ++ es)
  | _, _, _, _, .nil, s => s
  | _, _, _, _, .cons r t, s => .cons r (Tups.append t s)
theorem Tups.take {K : PySem.W.Frag} {H : Hp} : ∀ {xs : List V} {ds : List (List V)} (n : Nat), Tups K H xs ds → Tups K H (xs.take n) (ds.take n)
  | _, _, 0, _ => .nil
  | _, _, _ + 1, .nil => .nil
  | _, _, n + 1, .cons r t => .cons r (Tups.take n t)
theorem Tups.len {K : PySem.W.Frag} {H : Hp} {xs : List V} {ds : List (List V)} (t : Tups K H xs ds) : xs.length = ds.length := Paired.length t
theorem SqT.off {K : PySem.W.Frag} {H H' : Hp} {D a : Addr} {xs ys : List V} (f : Off D H H') (hD : H D = some (.lst ys)) (h : SqT K H a xs) : SqT K H' a xs := by
  rcases h with (h | ⟨o, h⟩) | h
  · exact .inl (.inl (f.at h hD (by intro z; cases z)))
  · exact .inl (.inr ⟨o, f.at h hD (by intro z; cases z)⟩)
  · exact .inr h
theorem Tups.off {K : PySem.W.Frag} {H H' : Hp} {D : Addr} {xs ys : List V} {ds : List (List V)} (t : Tups K H xs ds) (f : Off D H H') (hD : H D = some (.lst ys)) : Tups K H' xs ds := Paired.mapP t fun x d ⟨a, e, h⟩ => ⟨a, e, SqT.off f hD h⟩
theorem SqL.off {K : PySem.W.Frag} {H H' : Hp} {D a : Addr} {xs : List V} (f : Off D H H') (n : a ≠ D) (h : SqL K H a xs) : SqL K H' a xs := by
  rcases h with (h | ⟨o, h⟩) | h
  · exact .inl (.inl (f _ _ n h))
  · exact .inl (.inr ⟨o, f _ _ n h⟩)
  · exact .inr h
theorem sz100 {n : Nat} (h : n ≤ 100000) : n ≤ sizeLine := Nat.le_trans h (by decide)
theorem sz100l {n : Nat} (h : n < 100000) : n < sizeLine := Nat.lt_of_lt_of_le h (by decide)
theorem head_int (ns : List Int) (m : Int) : ∃ z, atI (ns.map V.int ++ [.int m]) 0 = some (.int z) := by
  cases ns with
  | nil => exact ⟨m, rfl⟩
  | cons z r => exact ⟨z, atI_nat (j := 0) rfl⟩
theorem last_int {l : List Int} {z : Int} (h : l[l.length - 1]? = some z) : atI (l.map V.int) (-1) = some (.int z) := by
  have ne : l ≠ [] := fun e => by
    rw [e] at h
    cases h
  have e1 := List.dropLast_concat_getLast ne
  have e2 : l.getLast ne = z := by
    rw [List.getLast_eq_getElem]
    rw [List.getElem?_eq_getElem (by cases l <;> simp at ne ⊢)] at h
    exact Option.some.inj h
  rw [← e1, List.map_append, e2]
  exact atI_last _ _
/-! ### the rules over a written part that is named: within a comprehension, too -/
section
variable {X : Cx} {K : PySem.W.Frag}
theorem ix_listK (h : X.K = K := by rfl) : IxR X (rIxL K) := by subst h; exact ix_list
theorem ix_tupK (h : X.K = K := by rfl) : IxR X (rIxT K) := by subst h; exact ix_tup
theorem sl_listK (h : X.K = K := by rfl) : SlR X (rSlL K) := by subst h; exact sl_list
theorem sl_tupK (h : X.K = K := by rfl) : SlR X (rSlT K) := by subst h; exact sl_tup
theorem op_in_seqK (h : X.K = K := by rfl) : OpR X (compareOp .In) (rIn K false) := by subst h; exact op_in_seq
theorem op_notIn_seqK (h : X.K = K := by rfl) : OpR X (compareOp .NotIn) (rIn K true) := by subst h; exact op_notIn_seq
theorem op_eqDK (hu : X.A.units + 64 < cLine) (h : X.K = K := by rfl) : OpR X (compareOp .Eq) (rEqD K) := by subst h; exact op_eqD hu
theorem op_neDK (hu : X.A.units + 64 < cLine) (h : X.K = K := by rfl) : OpR X (compareOp .NotEq) (rNeD K) := by subst h; exact op_neD hu
theorem op_catTK (h : X.K = K := by rfl) : OpR X (binaryOp .Add) (rCatT K) := by subst h; exact op_catT
theorem call_isiK' (h : X.K = K := by rfl) : CallR X (.builtin "isinstance") (rIsi K) := by subst h; exact call_isi
theorem call_isiTK (h : X.K = K := by rfl) : CallR X (.builtin "isinstance") (rIsiT K) := by subst h; exact call_isiT
theorem cr_allK (hc : X.calm = true) (h : X.K = K := by rfl) : CallR X (.builtin "all") (rAll K) := by subst h; exact cr_all hc
theorem cr_anyK (hc : X.calm = true) (h : X.K = K := by rfl) : CallR X (.builtin "any") (rAny K) := by subst h; exact cr_any hc
theorem cr_sumK (hc : X.calm = true) (h : X.K = K := by rfl) : CallR X (.builtin "sum") (rSum K) := by subst h; exact cr_sum hc
theorem pi_listK {tg l : Expr} {tl : TE} (hl : PE X l tl) (h : X.K = K := by rfl) : PI X tg l (iList K tl) := by subst h; exact pi_list hl
theorem pi_tupK {tg l : Expr} {tl : TE} (hl : PE X l tl) (h : X.K = K := by rfl) : PI X tg l (iTup K tl) := by subst h; exact pi_tup hl
theorem pi_reversedK {tg e : Expr} {ta : TA} {p pos : Pos} (hg : Gl X "reversed") (hm : X.mg "reversed" = none) (ha : PA X [e] ta) (hs : starEach [e] X.env = [(false, eval e X.env)] := by rfl) (h : X.K = K := by rfl) : PI X tg (.Call (.Name "reversed" p) [e] [] pos) (iRev K ta) := by subst h; exact pi_reversed hg hm ha hs
theorem pe_bm0K {o : Expr} {to : TE} {name : Str} {apos cpos : Pos} {T id : String} {r : V → List V → Hp → VK → Prop} (pa : PlainAttrs T) (slot : Slot T name id) (hty : typeOf (.builtin id) = pure (.type "method_descriptor")) (hm : MtR X id r) (ho : PE X o to)
    (hbase : attributeBase o name X.env (eval o X.env) = eval o X.env := by rfl) (hline : (apos.endLine == cpos.line) = true := by rfl) (h : X.K = K := by rfl) : PE X (.Call (.Attribute o name apos) [] [] cpos) (tBM0 K T r to) := by subst h; exact pe_bm0 pa slot hty hm ho hbase hline
theorem pe_bmK {o e : Expr} {es : List Expr} {to : TE} {t : TA} {name : Str} {apos cpos : Pos} {T id : String} {r : V → List V → Hp → VK → Prop} (pa : PlainAttrs T) (slot : Slot T name id) (hty : typeOf (.builtin id) = pure (.type "method_descriptor")) (hm : MtR X id r) (ho : PE X o to) (ha : PA X (e :: es) t)
    (hbase : attributeBase o name X.env (eval o X.env) = eval o X.env := by rfl)
    (hfew : ((backTo cpos (starEach (e :: es) X.env)).all (fun x => !x.1) && (backToKw cpos (keywordEach [] X.env)).all (fun x => x.1.isSome)
      && decide ((e :: es).length + ([] : List Keyword).length + (if ([] : List Keyword).isEmpty then 0 else 1) < 30)) = true := by rfl)
    (hline : (apos.endLine == cpos.line) = true := by rfl) (hs : starEach (e :: es) X.env = (false, eval e X.env) :: starEach es X.env := by rfl) (hplain : (backTo cpos (starEach es X.env)).any (·.1) = false := by rfl) (h : X.K = K := by rfl) :
    PE X (.Call (.Attribute o name apos) (e :: es) [] cpos) (tBM K T r to t) := by subst h; exact pe_bm pa slot hty hm ho ha hbase hfew hline hs hplain
theorem mt_indexK (h : X.K = K := by rfl) : MtR X "list.index" (rIndex K) := by subst h; exact mt_index
theorem pi_enumK {e : Expr} {ta : TA} {p pos tpos : Pos} {elts : List Expr} {kk : Nat} (hg : Gl X "enumerate") (hm : X.mg "enumerate" = none) (ha : PA X [e] ta) (hs : starEach [e] X.env = [(false, eval e X.env)] := by rfl) (h : X.K = K := by rfl) :
    PI X (.Tuple elts kk tpos) (.Call (.Name "enumerate" p) [e] [] pos) (iEnum K ta) := by subst h; exact pi_enum hg hm ha hs
theorem pi_zipK {e e2 : Expr} {ta : TA} {p pos tpos : Pos} {elts : List Expr} {kk : Nat} (hg : Gl X "zip") (hm : X.mg "zip" = none) (ha : PA X [e, e2] ta)
    (hs : starEach [e, e2] X.env = (false, eval e X.env) :: starEach [e2] X.env := by rfl) (hpl : (backTo pos (starEach [e2] X.env)).any (·.1) = false := by rfl) (h : X.K = K := by rfl) :
    PI X (.Tuple elts kk tpos) (.Call (.Name "zip" p) [e, e2] [] pos) (iZip K ta) := by subst h; exact pi_zip hg hm ha hs hpl
theorem pe_fldK {e : Expr} {f : Str} {pos : Pos} {ta : TE} (he : PE X e ta) (hb : attributeBase e f X.env (eval e X.env) = eval e X.env) (h : X.K = K := by rfl) : PE X (.Attribute e f pos) (tFld K ta f) := by subst h; exact pe_fld he hb
end

/-! ### ranges of ints of any size, walked -/
theorem turn_long {P : Program} {w : World} {K : PySem.W.Frag} {tg : Expr} (it : Addr) (lo : Int) (n : Nat) : Turn P w K tg (Itr lo n) [it] it (fun i h => IsLongIter h it (lo + (i : Nat) * 1) ((n : Int) - (i : Nat)) 1) where
  mem := by simp
  obj := fun i h st b hb => by
    have e : b = it := by simpa using hb
    subst e
    exact ⟨_, st, fun v z => by
      have z' : Data.fields _ = Data.cell v := z
      cases z'⟩
  keep := fun i h h' st k => k it (by simp) _ st
  item := by
    intro X hP hw hK hc i pins s σ H E I hf st hg
    subst hP hw hK
    obtain ⟨f0, f1, f2, f3, f4, f5⟩ := hf it (by simp)
    have W := Walks.longrange (prog := X.prog) (w := X.w) (I.ok.hd hc) it lo 1 n
    refine W.item i s _ _ hg st fun v h' tk hv st' kk => ?_
    obtain ⟨t, rfl⟩ := hv
    have I1 : Inv X pins σ H { s with heap := h', toks := tk } := I.turned (fun b o hb e => kk b o (by simpa using hb) e) f0 f1 f3 f4 f5
    refine ⟨_, rfl, go_of (s := { s with heap := h', toks := tk }) (n := "longrange_iterator") st' rfl rfl (by decide) ⟨.int (lo + i), H, I1, ⟨t, ?_⟩, ⟨rfl, rfl⟩, st', fun b hb => (hf b hb).1⟩⟩
    rw [Int.mul_one]
  done := by
    intro X hP hw hK hc i pins s σ H E I hf st hg
    subst hP hw hK
    obtain ⟨f0, f1, f2, f3, f4, f5⟩ := hf it (by simp)
    exact wpAny_pyNext_long_end (I.ok.hd hc) st (by have : n ≤ i := hg; omega) fun h' eb => ⟨rfl, I.turned (t' := s.toks) (fun b o hb e => eb b o hb e) f0 f1 f3 f4 f5⟩
  self := fun _ _ _ _ _ st h => wpAny_pyIter_longiter st h
theorem range_itL {X : Cx} {tg : Expr} {pins : List (Addr × Obj)} {σ : L2.St} {H : Hp} {s : Shared} {R : It → Hp → Prop} {E : Value → Shared → Prop} {lo hi : Int} {t u v : Tok} {tk : Nat} (I : Inv X pins σ H s)
    (q : R (Itr lo (hi - lo).toNat) H) : wpAny (model X.prog X.w) X.A (pyIter (.ref s.heap.objs.size)) (PIE X pins σ tg R) E { s with heap := s.heap.push { cls := .type "range", data := .fields #[.int lo t, .int hi u, .int 1 v] }, toks := tk } := by
  have I1 : Inv X pins σ H { s with heap := s.heap.push { cls := .type "range", data := .fields #[.int lo t, .int hi u, .int 1 v] }, toks := tk } := I.kept fun b o e => Heap.get?_push_of_some _ e
  have e1 : lo + ((0 : Nat) : Int) * 1 = lo := by simp
  have e2 : (((hi - lo).toNat : Nat) : Int) - ((0 : Nat) : Int) = Builtin.Range.rangeSize lo hi 1 := by rw [rangeSize_one]; split <;> omega
  cases hs : Builtin.Range.small lo hi 1 with
  | true =>
    refine wpAny_pyIter_range (IsRange.new ..) hs ?_
    refine ⟨(s.heap.push { cls := .type "range", data := .fields #[.int lo t, .int hi u, .int 1 v] }).objs.size, [(s.heap.push { cls := .type "range", data := .fields #[.int lo t, .int hi u, .int 1 v] }).objs.size], _, _, H, rfl,
      I1.kept (t' := tk) fun b o e => Heap.get?_push_of_some _ e, turn_range _ lo (hi - lo).toNat, ?_, fun b hb => ?_, q⟩
    · show IsRangeIter _ _ (lo + ((0 : Nat) : Int) * 1) ((((hi - lo).toNat : Nat) : Int) - ((0 : Nat) : Int)) 1
      rw [e1, e2]
      exact Heap.get?_push_size _ rfl
    · have e : b = (s.heap.push { cls := .type "range", data := .fields #[.int lo t, .int hi u, .int 1 v] }).objs.size := by simpa using hb
      subst e
      exact I1.fpOk (Nat.le_refl _) (I1.hok.fresh (Nat.le_refl _))
  | false =>
    refine wpAny_pyIter_longrange (IsRange.new ..) hs ?_
    refine ⟨(s.heap.push { cls := .type "range", data := .fields #[.int lo t, .int hi u, .int 1 v] }).objs.size, [(s.heap.push { cls := .type "range", data := .fields #[.int lo t, .int hi u, .int 1 v] }).objs.size], _, _, H, rfl,
      I1.kept (t' := tk) fun b o e => Heap.get?_push_of_some _ e, turn_long _ lo (hi - lo).toNat, ?_, fun b hb => ?_, q⟩
    · show IsLongIter _ _ (lo + ((0 : Nat) : Int) * 1) ((((hi - lo).toNat : Nat) : Int) - ((0 : Nat) : Int)) 1
      rw [e1, e2]
      exact Heap.get?_push_size _ rfl
    · have e : b = (s.heap.push { cls := .type "range", data := .fields #[.int lo t, .int hi u, .int 1 v] }).objs.size := by simpa using hb
      subst e
      exact I1.fpOk (Nat.le_refl _) (I1.hok.fresh (Nat.le_refl _))
def iRngL1 (ta : TA) : TI := fun σ H R => ta σ H fun vs H1 => ∃ j : Int, vs = [.int j] ∧ R (Itr 0 j.toNat) H1
def iRngL2 (ta : TA) : TI := fun σ H R => ta σ H fun vs H1 => ∃ i j : Int, vs = [.int i, .int j] ∧ R (Itr i (j - i).toNat) H1
theorem pi_rangeL1 {X : Cx} {tg : Expr} {a : Expr} {ta : TA} {p pos : Pos} (hg : Gl X "range") (hm : X.mg "range" = none) (ha : PA X [a] ta) (hs : starEach [a] X.env = [(false, eval a X.env)] := by rfl) : PI X tg (.Call (.Name "range" p) [a] [] pos) (iRngL1 ta) := by
  refine ⟨fun pins s σ H R I h => ?_⟩
  refine Call_ (ld_blt I hg hm boot_range (PyProof.Rows.callWith_type1 (thn (ha.run pos pins s σ H _ I h) fun us s1 ⟨vs, H1, I1, r1, q1⟩ => ?_) hs rfl))
  obtain ⟨j, e, q⟩ := q1
  subst e
  cases r1 with
  | cons r rr =>
    cases rr
    obtain ⟨t, rfl⟩ := r
    exact call_range_1 (range_itL I1 (by simpa using q))
theorem pi_rangeL2 {X : Cx} {tg : Expr} {a b : Expr} {ta : TA} {p pos : Pos} (hg : Gl X "range") (hm : X.mg "range" = none) (ha : PA X [a, b] ta) (hs : starEach [a, b] X.env = [(false, eval a X.env), (false, eval b X.env)] := by rfl) (hs2 : starEach [b] X.env = [(false, eval b X.env)] := by rfl) :
    PI X tg (.Call (.Name "range" p) [a, b] [] pos) (iRngL2 ta) := by
  refine ⟨fun pins s σ H R I h => ?_⟩
  refine Call_ (ld_blt I hg hm boot_range (PyProof.Rows.callWith_type1 (thn (ha.run pos pins s σ H _ I h) fun us s1 ⟨vs, H1, I1, r1, q1⟩ => ?_) (by rw [hs, hs2]) (by rw [hs2]; rfl)))
  obtain ⟨i, j, e, q⟩ := q1
  subst e
  cases r1 with
  | cons r rr =>
    cases rr with
    | cons r' rr =>
      cases rr
      obtain ⟨t, rfl⟩ := r
      obtain ⟨t', rfl⟩ := r'
      exact call_range_2 (range_itL I1 q)
/-! ### objects of own classes -/
structure Mn (P : Program) (w : World) (K : PySem.W.Frag) (mg : Str → Option Value) (base : Heap) (CX : CXT) (k : Nat) (C : Addr) (x : Str) (ps : List Str) (sp : Sp) : Prop where
  ex : ∃ f fd, Mk K C f ∧ FnOk P w K mg base CX k f fd ps sp ∧ mg x = some (.ref C) ∧ Binds K fd ps []
structure Nn (P : Program) (w : World) (K : PySem.W.Frag) (mg : Str → Option Value) (base : Heap) (CX : CXT) (k : Nat) (C : Addr) (m : Str) (ps : List Str) (sp : Sp) : Prop where
  cl : Cls K C
  ex : ∃ f fd, Meth K C m f ∧ FnOk P w K mg base CX k f fd ps sp ∧ Binds K fd ps []
section
variable {X : Cx} {CX : CXT} {k : Nat} {C : Addr} {ps : List Str} {sp : Sp} {E : XK} {x m : Str} {p pos apos : Pos} {e o : Expr} {es : List Expr} {t : TA} {ta : TE}
theorem pe_mk (M : Mn X.prog X.w X.K X.mg X.base CX k C x ps sp) (hr : Room (k + 1) X.A) (hg : Gl X x) (hx : Passes CX X E) (ha : PA X (e :: es) t)
    (hdb : (x == ("__debug__" : Str)) = false := by decide) (he : starEach (e :: es) X.env = (false, eval e X.env) :: starEach es X.env := by rfl) (hpl : (backTo pos (starEach es X.env)).any (·.1) = false := by rfl) :
    PE X (.Call (.Name x p) (e :: es) [] pos) (tMake C sp [] E t) := by
  obtain ⟨f, fd, mk, F, hm, b⟩ := M.ex
  exact pe_make mk F hr hg hm b .nil hx ha hdb he hpl
theorem pe_mk0 (M : Mn X.prog X.w X.K X.mg X.base CX k C x ps sp) (hr : Room (k + 1) X.A) (hg : Gl X x) (hx : Passes CX X E)
    (hdb : (x == ("__debug__" : Str)) = false := by decide) : PE X (.Call (.Name x p) [] [] pos) (tMake C sp [] E tNil) := by
  obtain ⟨f, fd, mk, F, hm, b⟩ := M.ex
  exact pe_make0 mk F hr hg hm b .nil hx hdb
theorem pe_md {pl : Sem Bool} (ho : PE X o ta) (N : Nn X.prog X.w X.K X.mg X.base CX k C m ps sp) (hr : Room k X.A) (hx : Passes CX X E) (ha : PA X (e :: es) t)
    (hst : starEach (e :: es) X.env = (false, eval e X.env) :: starEach es X.env := by rfl) (hpl : (backTo pos (starEach es X.env)).any (·.1) = false := by rfl)
    (ht : eval (.Call (.Attribute o m apos) (e :: es) [] pos) X.env = (do
      let ov ← eval o X.env
      standAt apos.atName
      let (f, first) ← holding [ov] (getMethod ov m pl)
      callWith pos f first (backTo pos (starEach (e :: es) X.env)) (backToKw pos (keywordEach [] X.env))) := by rfl) : PE X (.Call (.Attribute o m apos) (e :: es) [] pos) (tMeth C m sp [] E ta t) := by
  obtain ⟨f, fd, hm, F, b⟩ := N.ex
  exact pe_meth ho N.cl hm F hr b .nil hx ha hst hpl ht
theorem pe_md0 {pl : Sem Bool} (ho : PE X o ta) (N : Nn X.prog X.w X.K X.mg X.base CX k C m ps sp) (hr : Room k X.A) (hx : Passes CX X E)
    (ht : eval (.Call (.Attribute o m apos) [] [] pos) X.env = (do
      let ov ← eval o X.env
      standAt apos.atName
      let (f, first) ← holding [ov] (getMethod ov m pl)
      callWith pos f first (backTo pos (starEach [] X.env)) (backToKw pos (keywordEach [] X.env))) := by rfl) : PE X (.Call (.Attribute o m apos) [] [] pos) (tMeth C m sp [] E ta tNil) := by
  obtain ⟨f, fd, hm, F, b⟩ := N.ex
  exact pe_meth0 ho N.cl hm F hr b .nil hx ht
end
def Made (H : Hp) (C : Addr) (R : Addr → Hp → Prop) : Prop := ∀ x dx, H x = none → H dx = none → dx ≠ x → R x (upd (upd H dx (.own x)) x (.ins C dx []))
theorem Made.intro {H : Hp} {C : Addr} {R : Addr → Hp → Prop} (h : ∀ x dx H2, H x = none → Same H H2 → H2 x = some (.ins C dx []) → R x H2) : Made H C R := fun x dx hx hd ne =>
  h x dx _ hx (fun b o e => by rw [upd_ne (ne_of_none e hx), upd_ne (ne_of_none e hd)]; exact e) upd_same
theorem tMake_n {C : Addr} {sp : Sp} {dvs : List V} {E : XK} {t : TA} : tMake C sp dvs E t = fun σ H Q => t σ H fun vs H1 => Made H1 C fun x H2 => sp (.ref x :: (vs ++ dvs)) H2 (fun v H3 => v = .non ∧ Q (.ref x) H3) E := rfl
theorem sFld_n {K : PySem.W.Frag} {ta tv : TE} {f : Str} : sFld K ta tv f = fun D σ H => tv σ H fun y H1 => ta σ H1 fun x H2 => ∃ a C dx fs, x = .ref a ∧ H2 a = some (.ins C dx fs) ∧ Cls K C ∧ NoAttr K C f ∧ fs.length < 1000 ∧
  Upd H2 a (.ins C dx (putF f y fs)) fun H3 => D.nx σ H3 := rfl
theorem ps_fldK {X : Cx} {K : PySem.W.Frag} {o value : Expr} {f : Str} {pos pos' : Pos} {ta tv : TE} (ha : PE X o ta) (hv : PE X value tv) (hs : swapsWith value (some (.Attribute o f pos')) pos.line X.env = pure false) (h : X.K = K := by rfl) : PS X (.Assign [.Attribute o f pos'] value pos) (sFld K ta tv f) := by subst h; exact ps_fld ha hv hs
theorem lk0 {f : Str} {v : V} {r : List (Str × V)} : List.lookup f ((f, v) :: r) = some v := by simp [List.lookup]
theorem lk1 {f g : Str} {v : V} {r : List (Str × V)} {o : Option V} (h : (g == f) = false) (k : List.lookup g r = o) : List.lookup g ((f, v) :: r) = o := by
  rw [List.lookup_cons, h]
  exact k
theorem putF0 {f : Str} {v x : V} {r : List (Str × V)} : putF f v ((f, x) :: r) = (f, v) :: r := by
  unfold putF
  rw [if_pos rfl]
theorem putF1 {f g : Str} {v x : V} {r : List (Str × V)} (h : ¬ g = f) : putF f v ((g, x) :: r) = (g, x) :: putF f v r := by
  show (if g = f then _ else _) = _
  rw [if_neg h]
def rInsert : V → List V → Hp → VK → Prop := fun x vs H Q => ∃ (l : Addr) (xs : List V) (i : Int) (y : V), x = .ref l ∧ vs = [.int i, y] ∧ H l = some (.lst xs) ∧ xs.length < sizeLine ∧ 0 ≤ i ∧ i < 2 ^ 63 ∧ Upd H l (.lst (xs.take i.toNat ++ [y] ++ xs.drop i.toNat)) fun H2 => Q .non H2
theorem mt_insertR {X : Cx} : MtR X "list.insert" rInsert := mt_insert
theorem rRemI_n : rRemI = fun x xs H Q => ∃ (l : Addr) (ns : List Int) (k : Int) (j : Nat), x = V.ref l ∧ xs = [V.int k] ∧ H l = some (.lst (ns.map V.int)) ∧ ns[j]? = some k ∧ (∀ m : Nat, m < j → ns[m]? ≠ some k) ∧ Upd H l (.lst ((ns.eraseIdx j).map V.int)) fun H2 => Q .non H2 := rfl
theorem inV_int (n : Int) : ∀ ns : List Int, inV (.int n) (ns.map V.int) = decide (n ∈ ns)
  | [] => rfl
  | a :: r => by
    have e : inV (.int n) ((a :: r).map V.int) = (eqV (.int a) (.int n) || inV (.int n) (r.map V.int)) := rfl
    rw [e, inV_int n r]
    have e2 : eqV (.int a) (.int n) = decide (a = n) := by
      unfold eqV
      rfl
    rw [e2]
    by_cases h : a = n
    · subst h
      simp
    · simp [h, Ne.symm h]
theorem flat_ints : ∀ ns : List Int, (ns.map V.int).all flatV = true
  | [] => rfl
  | _ :: r => flat_ints r

/-! ### loops by an invariant -/
theorem Loop.list {K : PySem.W.Frag} {a : Addr} {xs : List V} {g : TG} {tb : TS} {D : Ends} {σ : L2.St} {H : Hp} (Pv : Nat → L2.St → Hp → Prop) (h0 : Pv 0 σ H) (hl : ∀ i σ H, i ≤ xs.length → Pv i σ H → SqL K H a xs)
    (hs : ∀ i x σ H, xs[i]? = some x → Pv i σ H → g x σ H fun σ2 H2 => tb { D with nx := Pv (i + 1), ct := Pv (i + 1), bk := D.nx } σ2 H2) (hd : ∀ σ H, Pv xs.length σ H → D.nx σ H) : Loop (Itl K a) g tb D σ H := for_list Pv h0 hl hs hd
theorem Loop.tup {K : PySem.W.Frag} {a : Addr} {xs : List V} {g : TG} {tb : TS} {D : Ends} {σ : L2.St} {H : Hp} (Pv : Nat → L2.St → Hp → Prop) (h0 : Pv 0 σ H) (hl : ∀ i σ H, i ≤ xs.length → Pv i σ H → SqT K H a xs)
    (hs : ∀ i x σ H, xs[i]? = some x → Pv i σ H → g x σ H fun σ2 H2 => tb { D with nx := Pv (i + 1), ct := Pv (i + 1), bk := D.nx } σ2 H2) (hd : ∀ σ H, Pv xs.length σ H → D.nx σ H) : Loop (Itt K a) g tb D σ H := for_tup Pv h0 hl hs hd
theorem Loop.range {lo : Int} {n : Nat} {g : TG} {tb : TS} {D : Ends} {σ : L2.St} {H : Hp} (Pv : Nat → L2.St → Hp → Prop) (h0 : Pv 0 σ H)
    (hs : ∀ i σ H, i < n → Pv i σ H → g (.int (lo + i)) σ H fun σ2 H2 => tb { D with nx := Pv (i + 1), ct := Pv (i + 1), bk := D.nx } σ2 H2) (hd : ∀ σ H, Pv n σ H → D.nx σ H) : Loop (Itr lo n) g tb D σ H := for_range Pv h0 hs hd
theorem Loop.rev {K : PySem.W.Frag} {a : Addr} {xs : List V} {n : Nat} {g : TG} {tb : TS} {D : Ends} {σ : L2.St} {H : Hp} (hn : n = xs.length) (Pv : Nat → L2.St → Hp → Prop) (h0 : Pv 0 σ H) (hl : ∀ i σ H, i ≤ xs.length → Pv i σ H → SqL K H a xs)
    (hs : ∀ i x σ H, xs[xs.length - 1 - i]? = some x → i < xs.length → Pv i σ H → g x σ H fun σ2 H2 => tb { D with nx := Pv (i + 1), ct := Pv (i + 1), bk := D.nx } σ2 H2) (hd : ∀ σ H, Pv xs.length σ H → D.nx σ H) : Loop (Itv K a n) g tb D σ H := by
  subst hn
  refine ⟨fun i m σ H => m = xs.length - i ∧ i ≤ xs.length ∧ Pv i σ H, ⟨xs.length, by simp, Nat.zero_le _, h0⟩, ?_⟩
  rintro i m σ H ⟨rfl, hi, p⟩
  have q := hl i σ H hi p
  by_cases hlt : i < xs.length
  · have hx : xs.length - 1 - i < xs.length := by omega
    refine .inr ⟨⟨hlt, xs, xs[xs.length - 1 - i], q, by simp [hx]⟩, Pv (i + 1), fun σ' H' p' => ⟨xs.length - (i + 1), by omega, rfl, hlt, p'⟩, fun x H' y => ?_⟩
    obtain ⟨e, y⟩ := y
    subst e
    exact hs i x σ _ (y xs q) hlt p
  · have e : i = xs.length := by omega
    subst e
    exact .inl ⟨Nat.le_refl _, hd σ H p⟩
theorem Loop.enum {K : PySem.W.Frag} {a : Addr} {xs : List V} {g : TG} {tb : TS} {D : Ends} {σ : L2.St} {H : Hp} (Pv : Nat → L2.St → Hp → Prop) (h0 : Pv 0 σ H) (hl : ∀ i σ H, i ≤ xs.length → Pv i σ H → SqL K H a xs)
    (hs : ∀ i x σ H T H1, xs[i]? = some x → Pv i σ H → H T = none → Same H H1 → H1 T = some (.tup [.int (i : Nat), x]) → g (.ref T) σ H1 fun σ2 H2 => tb { D with nx := Pv (i + 1), ct := Pv (i + 1), bk := D.nx } σ2 H2) (hd : ∀ σ H, Pv xs.length σ H → D.nx σ H) : Loop (Ite K a) g tb D σ H := by
  refine ⟨fun i m σ H => m = xs.length - i ∧ i ≤ xs.length ∧ Pv i σ H, ⟨xs.length, by simp, Nat.zero_le _, h0⟩, ?_⟩
  rintro i m σ H ⟨rfl, hi, p⟩
  have q := hl i σ H hi p
  by_cases hlt : i < xs.length
  · refine .inr ⟨⟨xs, xs[i], q, by simp [hlt]⟩, Pv (i + 1), fun σ' H' p' => ⟨xs.length - (i + 1), by omega, rfl, hlt, p'⟩, fun v H' y => ?_⟩
    obtain ⟨T, x, rfl, nT, rfl, f⟩ := y
    exact hs i x σ H T _ (f xs q) p nT (same_new nT) upd_same
  · have e : i = xs.length := by omega
    subst e
    exact .inl ⟨⟨xs, q, Nat.le_refl _⟩, hd σ H p⟩
theorem Loop.zip {K : PySem.W.Frag} {a b : Addr} {xs ys : List V} {g : TG} {tb : TS} {D : Ends} {σ : L2.St} {H : Hp} (hn : xs.length = ys.length) (Pv : Nat → L2.St → Hp → Prop) (h0 : Pv 0 σ H) (hl : ∀ i σ H, i ≤ xs.length → Pv i σ H → SqL K H a xs ∧ SqL K H b ys)
    (hs : ∀ i x y σ H T H1, xs[i]? = some x → ys[i]? = some y → Pv i σ H → H T = none → Same H H1 → H1 T = some (.tup [x, y]) → g (.ref T) σ H1 fun σ2 H2 => tb { D with nx := Pv (i + 1), ct := Pv (i + 1), bk := D.nx } σ2 H2) (hd : ∀ σ H, Pv xs.length σ H → D.nx σ H) : Loop (Itz K a b) g tb D σ H := by
  refine ⟨fun i m σ H => m = xs.length - i ∧ i ≤ xs.length ∧ Pv i σ H, ⟨xs.length, by simp, Nat.zero_le _, h0⟩, ?_⟩
  rintro i m σ H ⟨rfl, hi, p⟩
  have q := hl i σ H hi p
  by_cases hlt : i < xs.length
  · refine .inr ⟨⟨xs, ys, xs[i], ys[i]'(by omega), q.1, q.2, by simp [hlt], by simp [show i < ys.length by omega]⟩, Pv (i + 1), fun σ' H' p' => ⟨xs.length - (i + 1), by omega, rfl, hlt, p'⟩, fun v H' y => ?_⟩
    obtain ⟨T, x, y, rfl, nT, rfl, f1, f2⟩ := y
    exact hs i x y σ H T _ (f1 xs q.1) (f2 ys q.2) p nT (same_new nT) upd_same
  · have e : i = xs.length := by omega
    subst e
    exact .inl ⟨⟨xs, ys, q.1, q.2, .inl (Nat.le_refl _)⟩, hd σ H p⟩
theorem Loop.str {z : Str} {g : TG} {tb : TS} {D : Ends} {σ : L2.St} {H : Hp} (Pv : Nat → L2.St → Hp → Prop) (h0 : Pv 0 σ H)
    (hs : ∀ i c σ H, z.cps[i]? = some c → Pv i σ H → g (.str ⟨#[c]⟩) σ H fun σ2 H2 => tb { D with nx := Pv (i + 1), ct := Pv (i + 1), bk := D.nx } σ2 H2) (hd : ∀ σ H, Pv z.cps.size σ H → D.nx σ H) : Loop (Its z) g tb D σ H := by
  refine ⟨fun i m σ H => m = z.cps.size - i ∧ i ≤ z.cps.size ∧ Pv i σ H, ⟨z.cps.size, by simp, Nat.zero_le _, h0⟩, ?_⟩
  rintro i m σ H ⟨rfl, hi, p⟩
  by_cases hlt : i < z.cps.size
  · refine .inr ⟨hlt, Pv (i + 1), fun σ' H' p' => ⟨z.cps.size - (i + 1), by omega, rfl, hlt, p'⟩, fun x H' y => ?_⟩
    obtain ⟨e, c, hc, ex⟩ := y
    subst e ex
    exact hs i c σ _ hc p
  · have e : i = z.cps.size := by omega
    subst e
    exact .inl ⟨Nat.le_refl _, hd σ H p⟩

theorem int_at {ns : List Int} {i : Nat} {x : V} (h : (ns.map V.int)[i]? = some x) : ∃ z, ns[i]? = some z ∧ x = .int z := by
  rw [List.getElem?_map] at h
  cases e : ns[i]? with
  | none =>
    rw [e] at h
    cases h
  | some z =>
    rw [e] at h
    exact ⟨z, rfl, (Option.some.inj h).symm⟩
theorem at_int {ns : List Int} {i : Nat} {z : Int} (h : ns[i]? = some z) : (ns.map V.int)[i]? = some (.int z) := by
  rw [List.getElem?_map, h]
  rfl
theorem take_snoc {α : Type} {l : List α} {i : Nat} {x : α} (h : l[i]? = some x) : l.take (i + 1) = l.take i ++ [x] := by
  rw [List.take_add_one, h]
  rfl
theorem drop_at {α : Type} {l : List α} {i : Nat} {x : α} (h : l[i]? = some x) : l.drop i = x :: l.drop (i + 1) := by
  obtain ⟨hi, e⟩ := List.getElem?_eq_some_iff.mp h
  rw [List.drop_eq_getElem_cons hi, e]
theorem iteN {c A B : Prop} [Decidable c] (hc : ¬ c) (h : B) : if c then A else B := by
  rw [if_neg hc]
  exact h
theorem iteP {c A B : Prop} [Decidable c] (hc : c) (h : A) : if c then A else B := by
  rw [if_pos hc]
  exact h
/-! ### comprehensions -/
/-- what is made so far stands at D; the source stands; an element may change what it likes but D -/
theorem Cmp.list {K : PySem.W.Frag} {a : Addr} {xs : List V} {g : TG} {tt : TT} {te : TE} {vs : List Nat} {σ : L2.St} {H1 : Hp} {Q : VK} (Pv : Addr → Nat → List V → Hp → Prop)
    (h0 : ∀ D H2, H1 D = none → Same H1 H2 → H2 D = some (.lst []) → Pv D 0 [] H2) (hl : ∀ D i acc H, i ≤ xs.length → Pv D i acc H → SqL K H a xs)
    (hs : ∀ D i x acc H (Nx : Hp → Prop), xs[i]? = some x → acc.length ≤ i → Pv D i acc H → (∀ acc' H', acc'.length ≤ i + 1 → Pv D (i + 1) acc' H' → Nx H') → g x (wipe σ vs) H fun σ2 H2 => wipe σ2 vs = wipe σ vs ∧ tt σ2 H2 fun b H3 =>
      if b = true then te σ2 H3 fun y H4 => ∃ acc, H4 D = some (.lst acc) ∧ acc.length < sizeLine ∧ Nx (upd H4 D (.lst (acc ++ [y]))) else Nx H3) (hd : ∀ D acc H, acc.length ≤ xs.length → Pv D xs.length acc H → Q (.ref D) H) : Cmp (Itl K a) g tt te vs σ H1 Q := fun D nD =>
  lc_list (K := K) (a := a) (xs := xs) (fun i H => ∃ acc, acc.length ≤ i ∧ Pv D i acc H) ⟨[], Nat.zero_le _, h0 D _ nD (same_new nD) upd_same⟩ (fun i H hi ⟨acc, _, p⟩ => hl D i acc H hi p)
    (fun i x H hx ⟨acc, ha, p⟩ => hs D i x acc H _ hx ha p fun acc' H' h1 h2 => ⟨acc', h1, h2⟩) (fun H ⟨acc, ha, p⟩ => hd D acc H ha p)
theorem Cmp.tup {K : PySem.W.Frag} {a : Addr} {xs : List V} {g : TG} {tt : TT} {te : TE} {vs : List Nat} {σ : L2.St} {H1 : Hp} {Q : VK} (Pv : Addr → Nat → List V → Hp → Prop)
    (h0 : ∀ D H2, H1 D = none → Same H1 H2 → H2 D = some (.lst []) → Pv D 0 [] H2) (hl : ∀ D i acc H, i ≤ xs.length → Pv D i acc H → SqT K H a xs)
    (hs : ∀ D i x acc H (Nx : Hp → Prop), xs[i]? = some x → acc.length ≤ i → Pv D i acc H → (∀ acc' H', acc'.length ≤ i + 1 → Pv D (i + 1) acc' H' → Nx H') → g x (wipe σ vs) H fun σ2 H2 => wipe σ2 vs = wipe σ vs ∧ tt σ2 H2 fun b H3 =>
      if b = true then te σ2 H3 fun y H4 => ∃ acc, H4 D = some (.lst acc) ∧ acc.length < sizeLine ∧ Nx (upd H4 D (.lst (acc ++ [y]))) else Nx H3) (hd : ∀ D acc H, acc.length ≤ xs.length → Pv D xs.length acc H → Q (.ref D) H) : Cmp (Itt K a) g tt te vs σ H1 Q := fun D nD =>
  lc_tup (K := K) (a := a) (xs := xs) (fun i H => ∃ acc, acc.length ≤ i ∧ Pv D i acc H) ⟨[], Nat.zero_le _, h0 D _ nD (same_new nD) upd_same⟩ (fun i H hi ⟨acc, _, p⟩ => hl D i acc H hi p)
    (fun i x H hx ⟨acc, ha, p⟩ => hs D i x acc H _ hx ha p fun acc' H' h1 h2 => ⟨acc', h1, h2⟩) (fun H ⟨acc, ha, p⟩ => hd D acc H ha p)
theorem Cmp.range {lo : Int} {n : Nat} {g : TG} {tt : TT} {te : TE} {vs : List Nat} {σ : L2.St} {H1 : Hp} {Q : VK} (Pv : Addr → Nat → List V → Hp → Prop)
    (h0 : ∀ D H2, H1 D = none → Same H1 H2 → H2 D = some (.lst []) → Pv D 0 [] H2)
    (hs : ∀ D i acc H (Nx : Hp → Prop), i < n → acc.length ≤ i → Pv D i acc H → (∀ acc' H', acc'.length ≤ i + 1 → Pv D (i + 1) acc' H' → Nx H') → g (.int (lo + i)) (wipe σ vs) H fun σ2 H2 => wipe σ2 vs = wipe σ vs ∧ tt σ2 H2 fun b H3 =>
      if b = true then te σ2 H3 fun y H4 => ∃ acc, H4 D = some (.lst acc) ∧ acc.length < sizeLine ∧ Nx (upd H4 D (.lst (acc ++ [y]))) else Nx H3) (hd : ∀ D acc H, acc.length ≤ n → Pv D n acc H → Q (.ref D) H) : Cmp (Itr lo n) g tt te vs σ H1 Q := fun D nD =>
  lc_range (lo := lo) (n := n) (fun i H => ∃ acc, acc.length ≤ i ∧ Pv D i acc H) ⟨[], Nat.zero_le _, h0 D _ nD (same_new nD) upd_same⟩
    (fun i H hx ⟨acc, ha, p⟩ => hs D i acc H _ hx ha p fun acc' H' h1 h2 => ⟨acc', h1, h2⟩) (fun H ⟨acc, ha, p⟩ => hd D acc H ha p)
theorem push {D : Addr} {i : Nat} {acc : List V} {y : V} {H4 : Hp} {Nx : Hp → Prop} {PV : List V → Hp → Prop} (hN : ∀ acc' H', acc'.length ≤ i + 1 → PV acc' H' → Nx H') (ha : acc.length ≤ i) (h : H4 D = some (.lst acc)) (hi : i < 1000000)
    (hp : ∀ H5, Off D H4 H5 → H5 D = some (.lst (acc ++ [y])) → PV (acc ++ [y]) H5) : ∃ acc, H4 D = some (.lst acc) ∧ acc.length < sizeLine ∧ Nx (upd H4 D (.lst (acc ++ [y]))) :=
  ⟨acc, h, Nat.lt_of_lt_of_le (Nat.lt_of_le_of_lt ha hi) (by decide), hN _ _ (by rw [List.length_append]; exact Nat.succ_le_succ ha) (hp _ Off.upd upd_same)⟩
/-- elements that change nothing, over a list; with a test -/
theorem Cmp.pureF {K : PySem.W.Frag} {a : Addr} {xs : List V} {j : Nat} {tt : TT} {te : TE} {vs : List Nat} {σ : L2.St} {H1 : Hp} {Q : VK} (p : V → Bool) (f : V → V) (hS : SqL K H1 a xs) (hz : xs.length ≤ 100000) (hw : ∀ x, wipe ((wipe σ vs).set j (some x)) vs = wipe σ vs)
    (ht : ∀ x H2 (R : Bool → Hp → Prop), x ∈ xs → Same H1 H2 → (∀ H3, Same H2 H3 → R (p x) H3) → tt ((wipe σ vs).set j (some x)) H2 R)
    (he : ∀ x H2 (R : VK), x ∈ xs → p x = true → Same H1 H2 → (∀ H3, Same H2 H3 → R (f x) H3) → te ((wipe σ vs).set j (some x)) H2 R)
    (hd : ∀ l H2, H1 l = none → Same H1 H2 → H2 l = some (.lst ((xs.filter p).map f)) → Q (.ref l) H2) : Cmp (Itl K a) (gName j) tt te vs σ H1 Q := by
  refine Cmp.list (xs := xs) (fun D i acc H => H1 D = none ∧ Same H1 H ∧ H D = some (.lst acc) ∧ acc = ((xs.take i).filter p).map f) (fun D H2 nD s2 h2 => ⟨nD, s2, h2, by simp⟩) (fun D i acc H _ ⟨_, s2, _⟩ => s2.seq hS) ?_ ?_
  · rintro D i x acc H Nx hx ha ⟨nD, s2, h2, ea⟩ hN
    have hi : i < xs.length := (List.getElem?_eq_some_iff.mp hx).1
    have hm := List.mem_of_getElem? hx
    refine ⟨hw x, ht x H _ hm s2 fun H3 s3 => ?_⟩
    cases hp : p x with
    | true =>
      rw [if_pos rfl]
      refine he x H3 _ hm hp (s2.trans s3) fun H4 s4 => push hN ha (s4 _ _ (s3 _ _ h2)) (by omega) fun H5 o5 h5 => ⟨nD, Same.off ((s2.trans s3).trans s4) nD o5, h5, ?_⟩
      rw [ea, take_snoc hx, List.filter_append, List.map_append]
      simp [hp]
    | false =>
      rw [if_neg Bool.false_ne_true]
      refine hN acc H3 (Nat.le_succ_of_le ha) ⟨nD, s2.trans s3, s3 _ _ h2, ?_⟩
      rw [ea, take_snoc hx, List.filter_append, List.map_append]
      simp [hp]
  · rintro D acc H _ ⟨nD, s2, h2, ea⟩
    rw [List.take_length] at ea
    exact hd D H nD s2 (ea ▸ h2)
theorem Cmp.pureL {K : PySem.W.Frag} {a : Addr} {xs : List V} {j : Nat} {te : TE} {vs : List Nat} {σ : L2.St} {H1 : Hp} {Q : VK} (f : V → V) (hS : SqL K H1 a xs) (hz : xs.length ≤ 100000) (hw : ∀ x, wipe ((wipe σ vs).set j (some x)) vs = wipe σ vs)
    (he : ∀ x H2 (R : VK), x ∈ xs → Same H1 H2 → (∀ H3, Same H2 H3 → R (f x) H3) → te ((wipe σ vs).set j (some x)) H2 R)
    (hd : ∀ l H2, H1 l = none → Same H1 H2 → H2 l = some (.lst (xs.map f)) → Q (.ref l) H2) : Cmp (Itl K a) (gName j) tYes te vs σ H1 Q :=
  Cmp.pureF (fun _ => true) f hS hz hw (fun x H2 R _ _ h => h H2 (Same.refl H2)) (fun x H2 R hm _ => he x H2 R hm) fun l H2 n s h => hd l H2 n s (by rw [List.filter_eq_self.mpr (fun _ _ => rfl)] at h; exact h)
theorem Cmp.pureRF {lo : Int} {n : Nat} {j : Nat} {tt : TT} {te : TE} {vs : List Nat} {σ : L2.St} {H1 : Hp} {Q : VK} (p : Nat → Bool) (f : Nat → V) (hz : n ≤ 100000) (hw : ∀ x, wipe ((wipe σ vs).set j (some x)) vs = wipe σ vs)
    (ht : ∀ i H2 (R : Bool → Hp → Prop), i < n → Same H1 H2 → (∀ H3, Same H2 H3 → R (p i) H3) → tt ((wipe σ vs).set j (some (.int (lo + (i : Int))))) H2 R)
    (he : ∀ i H2 (R : VK), i < n → p i = true → Same H1 H2 → (∀ H3, Same H2 H3 → R (f i) H3) → te ((wipe σ vs).set j (some (.int (lo + (i : Int))))) H2 R)
    (hd : ∀ l H2, H1 l = none → Same H1 H2 → H2 l = some (.lst (((List.range n).filter p).map f)) → Q (.ref l) H2) : Cmp (Itr lo n) (gName j) tt te vs σ H1 Q := by
  refine Cmp.range (fun D i acc H => H1 D = none ∧ Same H1 H ∧ H D = some (.lst acc) ∧ acc = ((List.range i).filter p).map f) (fun D H2 nD s2 h2 => ⟨nD, s2, h2, by simp⟩) ?_ ?_
  · rintro D i acc H Nx hi ha ⟨nD, s2, h2, ea⟩ hN
    refine ⟨hw _, ht i H _ hi s2 fun H3 s3 => ?_⟩
    cases hp : p i with
    | true =>
      rw [if_pos rfl]
      refine he i H3 _ hi hp (s2.trans s3) fun H4 s4 => push hN ha (s4 _ _ (s3 _ _ h2)) (by omega) fun H5 o5 h5 => ⟨nD, Same.off ((s2.trans s3).trans s4) nD o5, h5, ?_⟩
      rw [ea, List.range_succ, List.filter_append, List.map_append]
      simp [hp]
    | false =>
      rw [if_neg Bool.false_ne_true]
      refine hN acc H3 (Nat.le_succ_of_le ha) ⟨nD, s2.trans s3, s3 _ _ h2, ?_⟩
      rw [ea, List.range_succ, List.filter_append, List.map_append]
      simp [hp]
  · rintro D acc H _ ⟨nD, s2, h2, ea⟩
    exact hd D H nD s2 (ea ▸ h2)
theorem Cmp.pureR {lo : Int} {n : Nat} {j : Nat} {te : TE} {vs : List Nat} {σ : L2.St} {H1 : Hp} {Q : VK} (f : Nat → V) (hz : n ≤ 100000) (hw : ∀ x, wipe ((wipe σ vs).set j (some x)) vs = wipe σ vs)
    (he : ∀ i H2 (R : VK), i < n → Same H1 H2 → (∀ H3, Same H2 H3 → R (f i) H3) → te ((wipe σ vs).set j (some (.int (lo + (i : Int))))) H2 R)
    (hd : ∀ l H2, H1 l = none → Same H1 H2 → H2 l = some (.lst ((List.range n).map f)) → Q (.ref l) H2) : Cmp (Itr lo n) (gName j) tYes te vs σ H1 Q :=
  Cmp.pureRF (fun _ => true) f hz hw (fun x H2 R _ _ h => h H2 (Same.refl H2)) (fun x H2 R hm _ => he x H2 R hm) fun l H2 n s h => hd l H2 n s (by rw [List.filter_eq_self.mpr (fun _ _ => rfl)] at h; exact h)

theorem sq_true {K : PySem.W.Frag} {H : Hp} {l : Addr} {α : Type} {ys : List α} (h : H l = some (.lst (ys.map fun _ => V.bl true))) : SqL K H l ((ys.map fun _ => true).map V.bl) := by
  rw [List.map_map]
  exact seq_of h
theorem all_true {α : Type} : ∀ ys : List α, (ys.map fun _ => true).all id = true
  | [] => rfl
  | _ :: r => all_true r
theorem cut_to (xs : List V) (j : Nat) : cutV xs none (some (j : Int)) = xs.take j := by
  unfold cutV
  rw [HT.sIx_none, HT.sIx_nat, List.drop_zero, Nat.sub_zero]
  by_cases h : j ≤ xs.length
  · rw [Nat.min_eq_left h]
  · rw [Nat.min_eq_right (by omega), List.take_of_length_le (Nat.le_refl _), List.take_of_length_le (by omega)]
theorem cut_from (xs : List V) (j : Nat) : cutV xs (some (j : Int)) none = xs.drop j := by
  unfold cutV
  rw [HT.sIx_none, HT.sIx_nat]
  by_cases h : j ≤ xs.length
  · rw [Nat.min_eq_left h, List.take_of_length_le (by rw [List.length_drop]; omega)]
  · rw [Nat.min_eq_right (by omega), List.drop_eq_nil_of_le (Nat.le_refl _), List.drop_eq_nil_of_le (by omega), List.take_nil]

/-! ### data -/
def pd : V → PyData
  | .bl b => .bool b
  | .int i => .int i
  | .str x => .str x
  | _ => .none
def isPd : V → Bool
  | .bl _ => true
  | .int _ => true
  | .str x => PyData.strOk x
  | .non => true
  | _ => false
theorem dp_pd {K : PySem.W.Frag} {H : Hp} : ∀ {x : V}, isPd x = true → Dp K H x (pd x)
  | .non, _ => .non
  | .bl b, _ => .bl b
  | .int i, _ => .int i
  | .str x, _ => .str x
theorem dpAll_pd {K : PySem.W.Frag} {H : Hp} : ∀ {xs : List V}, xs.all isPd = true → DpAll K H xs (xs.map pd)
  | [], _ => .nil
  | x :: xs, h => by
    rw [List.all_cons, Bool.and_eq_true] at h
    exact .cons (dp_pd h.1) (dpAll_pd h.2)
theorem ints_pd : ∀ ns : List Int, (ns.map V.int).all isPd = true
  | [] => rfl
  | _ :: r => ints_pd r
theorem dp_lst {K : PySem.W.Frag} {H : Hp} {a : Addr} {xs : List V} (h : SqL K H a xs) (hx : xs.all isPd = true) : Dp K H (.ref a) (.list (xs.map pd)) := .lst h (dpAll_pd hx)
theorem dp_tup {K : PySem.W.Frag} {H : Hp} {a : Addr} {xs : List V} (h : SqT K H a xs) (hx : xs.all isPd = true) : Dp K H (.ref a) (.tuple (xs.map pd)) := .tup h (dpAll_pd hx)
theorem pd_lay : ∀ {x : V}, isPd x = true → (pd x).canLay0 = true
  | .non, _ => rfl
  | .bl _, _ => rfl
  | .int _, _ => rfl
  | .str x, h => h
theorem pd_layAll : ∀ {xs : List V}, xs.all isPd = true → PyData.canLayAll0 (xs.map pd) = true
  | [], _ => rfl
  | x :: xs, h => by
    rw [List.all_cons, Bool.and_eq_true] at h
    show ((pd x).canLay0 && PyData.canLayAll0 (xs.map pd)) = true
    rw [pd_lay h.1, pd_layAll h.2]
    rfl
theorem pd_depth : ∀ x : V, (pd x).depth = 0
  | .non => rfl
  | .bl _ => rfl
  | .int _ => rfl
  | .str _ => rfl
  | .byt _ => rfl
  | .flt _ => rfl
  | .ref _ => rfl
  | .ty _ => rfl

theorem pd_depthAll : ∀ xs : List V, PyData.depthAll (xs.map pd) = 0
  | [] => rfl
  | x :: xs => by
    show max (pd x).depth (PyData.depthAll (xs.map pd)) = 0
    rw [pd_depth, pd_depthAll]
    rfl
theorem shaped_lst {xs : List V} (h : xs.all isPd = true) : SeqAt.shaped (.list (xs.map pd)) = true := by
  have e : (PyData.list (xs.map pd)).depth = 1 := by
    show PyData.depthAll (xs.map pd) + 1 = 1
    rw [pd_depthAll]
  show ((PyData.canLayAll0 (xs.map pd)) && decide ((PyData.list (xs.map pd)).depth ≤ 64)) = true
  rw [pd_layAll h, e]
  rfl
theorem shaped_tup {xs : List V} (h : xs.all isPd = true) : SeqAt.shaped (.tuple (xs.map pd)) = true := by
  have e : (PyData.tuple (xs.map pd)).depth = 1 := by
    show PyData.depthAll (xs.map pd) + 1 = 1
    rw [pd_depthAll]
  show ((PyData.canLayAll0 (xs.map pd)) && decide ((PyData.tuple (xs.map pd)).depth ≤ 64)) = true
  rw [pd_layAll h, e]
  rfl
theorem eqvAll_ints : ∀ ns ms : List Int, PyData.eqvAll ((ns.map V.int).map pd) ((ms.map V.int).map pd) = decide (ns = ms)
  | [], [] => rfl
  | [], _ :: _ => rfl
  | _ :: _, [] => rfl
  | a :: r, b :: t => by
    show ((a == b) && PyData.eqvAll ((r.map V.int).map pd) ((t.map V.int).map pd)) = decide (a :: r = b :: t)
    rw [eqvAll_ints r t]
    by_cases h : a = b
    · subst h
      simp
    · simp [h]
theorem eqv_ints (ns ms : List Int) : PyData.eqv (.list ((ns.map V.int).map pd)) (.list ((ms.map V.int).map pd)) = decide (ns = ms) := eqvAll_ints ns ms
/-- == of two lists of ints -/
theorem eq_ints {K : PySem.W.Frag} {H : Hp} {a b : Addr} {ns ms : List Int} {Q : VK} (ha : SqL K H a (ns.map V.int)) (hb : SqL K H b (ms.map V.int)) (q : Q (.bl (decide (ns = ms))) H) : rEqD K (.ref a) (.ref b) H Q :=
  ⟨_, _, dp_lst ha (ints_pd ns), dp_lst hb (ints_pd ms), shaped_lst (ints_pd ns), shaped_lst (ints_pd ms), by rw [eqv_ints]; exact q⟩
theorem ne_ints {K : PySem.W.Frag} {H : Hp} {a b : Addr} {ns ms : List Int} {Q : VK} (ha : SqL K H a (ns.map V.int)) (hb : SqL K H b (ms.map V.int)) (q : Q (.bl (!decide (ns = ms))) H) : rNeD K (.ref a) (.ref b) H Q :=
  ⟨_, _, dp_lst ha (ints_pd ns), dp_lst hb (ints_pd ms), shaped_lst (ints_pd ns), shaped_lst (ints_pd ms), by rw [eqv_ints]; exact q⟩
/-- == of equal data -/
theorem eq_tups {K : PySem.W.Frag} {H : Hp} {a b : Addr} {xs : List V} {Q : VK} (ha : SqT K H a xs) (hb : SqT K H b xs) (hx : xs.all isPd = true) (q : Q (.bl true) H) : rEqD K (.ref a) (.ref b) H Q :=
  ⟨_, _, dp_tup ha hx, dp_tup hb hx, shaped_tup hx, shaped_tup hx, by rw [SeqAt.eqv_refl (.tuple (xs.map pd)) (show PyData.canLayAll0 (xs.map pd) = true from pd_layAll hx)]; exact q⟩

/-- the type of a list, of a tuple, of an int that is told -/
theorem tyv_list {K : PySem.W.Frag} {H : Hp} {a : Addr} {xs : List V} (h : SqL K H a xs) : tyV K "list" (.ref a) H := .inl ⟨rfl, _, h⟩
theorem ty_int {K : PySem.W.Frag} {H : Hp} {i : Int} : TyX K H (.int i) (.type "int") := .base (.int i)
theorem ty_lst {K : PySem.W.Frag} {H : Hp} {a : Addr} {xs : List V} (h : H a = some (.lst xs)) : TyX K H (.ref a) (.type "list") := .base (.lst h)
theorem ty_tup {K : PySem.W.Frag} {H : Hp} {a : Addr} {xs : List V} (h : H a = some (.tup xs)) : TyX K H (.ref a) (.type "tuple") := .base (.tup h)

theorem scal_ii {i j : Int} : scal (.int i) (.int j) = true := rfl
theorem scal_bb {i j : Bool} : scal (.bl i) (.bl j) = true := rfl
theorem scal_ss {i j : Str} : scal (.str i) (.str j) = true := rfl
theorem scal_nn : scal .non .non = true := rfl
theorem scal_ni {j : Int} : scal .non (.int j) = true := rfl
theorem scal_in {j : Int} : scal (.int j) .non = true := rfl
theorem scal_ns {j : Str} : scal .non (.str j) = true := rfl
theorem scal_sn {j : Str} : scal (.str j) .non = true := rfl
theorem scal_is {i : Int} {j : Str} : scal (.int i) (.str j) = true := rfl
theorem scal_si {i : Int} {j : Str} : scal (.str j) (.int i) = true := rfl

/-! == of lists of tuples -/
def pdT (d : List V) : PyData := .tuple (d.map pd)
theorem dp_tups {K : PySem.W.Frag} {H : Hp} : ∀ {xs : List V} {ds : List (List V)}, Tups K H xs ds → (∀ d ∈ ds, d.all isPd = true) → DpAll K H xs (ds.map pdT)
  | _, _, .nil, _ => .nil
  | _, _, .cons (b := d) ⟨a, e, h⟩ t, hd => by
    subst e
    exact .cons (dp_tup h (hd d List.mem_cons_self)) (dp_tups t fun d h => hd d (List.mem_cons_of_mem _ h))
theorem lay_tups : ∀ {ds : List (List V)}, (∀ d ∈ ds, d.all isPd = true) → PyData.canLayAll0 (ds.map pdT) = true
  | [], _ => rfl
  | d :: r, h => by
    show (PyData.canLayAll0 (d.map pd) && PyData.canLayAll0 (r.map pdT)) = true
    rw [pd_layAll (h d List.mem_cons_self), lay_tups fun d hd => h d (List.mem_cons_of_mem _ hd)]
    rfl
theorem depth_tups : ∀ ds : List (List V), PyData.depthAll (ds.map pdT) ≤ 1
  | [] => by show 0 ≤ 1; decide
  | d :: r => by
    show max (PyData.depthAll (d.map pd) + 1) (PyData.depthAll (r.map pdT)) ≤ 1
    rw [pd_depthAll]
    have := depth_tups r
    omega
theorem shaped_tups {ds : List (List V)} (h : ∀ d ∈ ds, d.all isPd = true) : SeqAt.shaped (.list (ds.map pdT)) = true := by
  have e : (PyData.list (ds.map pdT)).depth ≤ 64 := by
    show PyData.depthAll (ds.map pdT) + 1 ≤ 64
    have := depth_tups ds
    omega
  show ((PyData.canLayAll0 (ds.map pdT)) && decide ((PyData.list (ds.map pdT)).depth ≤ 64)) = true
  rw [lay_tups h, decide_eq_true e]
  rfl
theorem eqv_tups {ds : List (List V)} (h : ∀ d ∈ ds, d.all isPd = true) : PyData.eqv (.list (ds.map pdT)) (.list (ds.map pdT)) = true := SeqAt.eqv_refl (.list (ds.map pdT)) (show PyData.canLayAll0 (ds.map pdT) = true from lay_tups h)
theorem eq_tupsL {K : PySem.W.Frag} {H : Hp} {a b : Addr} {xs ys : List V} {ds : List (List V)} {Q : VK} (ha : SqL K H a xs) (hb : SqL K H b ys) (t : Tups K H xs ds) (u : Tups K H ys ds) (hd : ∀ d ∈ ds, d.all isPd = true) (q : Q (.bl true) H) : rEqD K (.ref a) (.ref b) H Q :=
  ⟨_, _, .lst ha (dp_tups t hd), .lst hb (dp_tups u hd), shaped_tups hd, shaped_tups hd, by rw [eqv_tups hd]; exact q⟩
theorem ne_tupsL {K : PySem.W.Frag} {H : Hp} {a b : Addr} {xs ys : List V} {ds : List (List V)} {Q : VK} (ha : SqL K H a xs) (hb : SqL K H b ys) (t : Tups K H xs ds) (u : Tups K H ys ds) (hd : ∀ d ∈ ds, d.all isPd = true) (q : Q (.bl false) H) : rNeD K (.ref a) (.ref b) H Q :=
  ⟨_, _, .lst ha (dp_tups t hd), .lst hb (dp_tups u hd), shaped_tups hd, shaped_tups hd, by rw [eqv_tups hd]; exact q⟩

/-! ### list + list, whoever holds them -/
def rCatR (K : PySem.W.Frag) : R2 := fun x y H Q => ∃ l b xs zs, x = .ref l ∧ y = .ref b ∧ SqL K H l xs ∧ SqL K H b zs ∧ xs.length + zs.length ≤ sizeLine ∧ New H (.lst (xs ++ zs)) fun p H2 => Q (.ref p) H2
theorem op_catS {X : Cx} {K : PySem.W.Frag} (h : X.K = K := by rfl) : OpR X (binaryOp .Add) (rCatR K) := by
  subst h
  intro pins s σ H x y v u Q I rx ry h
  obtain ⟨l, b, xs, zs, rfl, rfl, hH, hB, hz, q⟩ := h
  cases rx
  cases ry
  obtain ⟨its, r, ⟨⟨cls, dd, dt, sl⟩, n, e, hc, hd0, hd⟩, hz1⟩ := I.list hH
  obtain ⟨its2, r2, ⟨⟨cls2, dd2, dt2, sl2⟩, n2, e2, hc2, hd02, hd2⟩, hz2⟩ := I.list hB
  simp only at hc hd hc2 hd2
  subst hc hd hc2 hd2
  have hl := r.length
  have hl2 := r2.length
  have ea : its.toArray ++ its2.toArray = (its ++ its2).toArray := by simp
  refine concat_meets ⟨_, e, rfl⟩ ⟨_, e2, rfl⟩ noFill_list_add seq_list_add PySem.F.slot_list_add PySem.F.entry_list_add (PySem.F.args_list_add_2 _ _) (list_addW l b its.toArray its2.toArray n n2 dd dd2 sl sl2 (by rw [List.size_toArray, List.size_toArray]; omega)) ⟨e, e2, ?_⟩
  rw [ea]
  exact ⟨.ref _, _, I.lnew (t' := s.toks) (r.append r2) (by rw [List.length_append]; omega), rfl, q _ I.fresh⟩

/-! ### int(x), [x] * n, == of equal lists -/
def rInt1 : List V → Hp → VK → Prop := fun xs H Q => (∃ i, xs = [.int i] ∧ Q (.int i) H) ∨ ∃ k, xs = [.bl k] ∧ Q (.int (if k then 1 else 0)) H
theorem call_int1R {X : Cx} : CallR X (.type "int") rInt1 := call_int1
theorem rRep_n : rRep = fun x y H Q => ∃ l k xs, x = .ref l ∧ y = .int k ∧ H l = some (.lst xs) ∧ -(2 ^ 63) ≤ k ∧ k < 2 ^ 63 ∧ xs.length * k.toNat ≤ sizeLine ∧ New H (.lst (List.replicate k.toNat xs).flatten) fun p H2 => Q (.ref p) H2 := rfl
theorem eq_lst {K : PySem.W.Frag} {H : Hp} {a b : Addr} {xs : List V} {Q : VK} (ha : SqL K H a xs) (hb : SqL K H b xs) (hx : xs.all isPd = true) (q : Q (.bl true) H) : rEqD K (.ref a) (.ref b) H Q :=
  ⟨_, _, dp_lst ha hx, dp_lst hb hx, shaped_lst hx, shaped_lst hx, by rw [SeqAt.eqv_refl (.list (xs.map pd)) (show PyData.canLayAll0 (xs.map pd) = true from pd_layAll hx)]; exact q⟩
theorem ne_lst {K : PySem.W.Frag} {H : Hp} {a b : Addr} {xs : List V} {Q : VK} (ha : SqL K H a xs) (hb : SqL K H b xs) (hx : xs.all isPd = true) (q : Q (.bl false) H) : rNeD K (.ref a) (.ref b) H Q :=
  ⟨_, _, dp_lst ha hx, dp_lst hb hx, shaped_lst hx, shaped_lst hx, by rw [SeqAt.eqv_refl (.list (xs.map pd)) (show PyData.canLayAll0 (xs.map pd) = true from pd_layAll hx)]; exact q⟩
theorem cut_init (xs : List V) (x : V) : cutV (xs ++ [x]) none (some (-1)) = xs := by
  unfold cutV HT.sIx
  simp only [List.length_append, List.length_singleton, List.drop_zero, Nat.sub_zero]
  rw [if_pos (by decide), show (-1 + ((xs.length + 1 : Nat) : Int)).toNat = xs.length by omega, List.take_append_of_le_length (Nat.le_refl _), List.take_length]
theorem cut_mid (xs : List V) (i j : Nat) : cutV xs (some (i : Int)) (some (j : Int)) = (xs.drop i).take (j - i) := by
  unfold cutV
  rw [HT.sIx_nat, HT.sIx_nat]
  by_cases h : i ≤ xs.length
  · rw [Nat.min_eq_left h]
    by_cases h2 : j ≤ xs.length
    · rw [Nat.min_eq_left h2]
    · rw [Nat.min_eq_right (by omega), List.take_of_length_le (by rw [List.length_drop]; omega), List.take_of_length_le (by rw [List.length_drop]; omega)]
  · have e : min i xs.length = xs.length := Nat.min_eq_right (by omega)
    rw [e, List.drop_eq_nil_of_le (Nat.le_refl _), List.drop_eq_nil_of_le (show xs.length ≤ i by omega), List.take_nil, List.take_nil]
/-! ### len(set(xs)) of ints -/
def tLenSetS (K : PySem.W.Frag) (ta : TE) : TE := fun σ H Q => ta σ H fun x H1 => ∃ (l : Addr) (ns : List Int), x = .ref l ∧ SqL K H1 l (ns.map V.int) ∧ ns.length ≤ 4000 ∧ ∀ ds : List Int, ds.Nodup → (∀ k, k ∈ ds ↔ k ∈ ns) → Q (.int (ds.length : Nat)) H1
theorem firstMet_nd (val : Nat → Int) : ∀ i, (PyProof.Rows.firstMet val i).Nodup
  | 0 => List.nodup_nil
  | i + 1 => by
    rw [PyProof.Rows.firstMet_succ]
    unfold PyProof.Rows.step_dedup
    split
    · exact firstMet_nd val i
    · rename_i h
      rw [List.nodup_append]
      refine ⟨firstMet_nd val i, List.nodup_cons.mpr ⟨List.not_mem_nil, List.nodup_nil⟩, fun a ha b hb e => h (List.any_eq_true.mpr ⟨a, ha, ?_⟩)⟩
      rw [List.mem_singleton] at hb
      rw [e, hb]
      exact beq_self_eq_true _
theorem firstMet_mem (ns : List Int) (k : Int) : k ∈ PyProof.Rows.firstMet (fun i => ns.getD i 0) ns.length ↔ k ∈ ns := by
  have h := PyProof.Rows.firstMet_any (fun i => ns.getD i 0) ns.length k
  have e : (List.range ns.length).map (fun i => ns.getD i 0) = ns := by
    apply List.ext_getElem
    · rw [List.length_map, List.length_range]
    · intro i h1 h2
      rw [List.getElem_map, List.getElem_range, List.getD_eq_getElem?_getD, List.getElem?_eq_getElem h2]
      rfl
  rw [e] at h
  have mem : ∀ l : List Int, l.any (· == k) = true ↔ k ∈ l := fun l => by
    rw [List.any_eq_true]
    constructor
    · rintro ⟨x, hx, e⟩
      rw [← eq_of_beq e]
      exact hx
    · intro hk
      exact ⟨k, hk, beq_self_eq_true k⟩
  rw [← mem, ← mem, h]
theorem pe_lenSetS {X : Cx} {K : PySem.W.Frag} {a : Expr} {ta : TE} {p p2 q pos : Pos} (hg : Gl X "len") (hm : X.mg "len" = none) (hg2 : Gl X "set") (hm2 : X.mg "set" = none) (ha : PE X a ta) (hc : X.calm = true := by rfl)
    (na : starEach [a] X.env = (false, eval a X.env) :: starEach [] X.env := by rfl) (hK : X.K = K := by rfl) : PE X (.Call (.Name "len" p) [.Call (.Name "set" p2) [a] [] q] [] pos) (tLenSetS K ta) := by
  subst hK
  refine ⟨fun pins s σ H Q I h => ?_⟩
  refine Call_ (ld_blt I hg hm boot_len ?_)
  refine PyProof.Rows.callWith_builtin1 (PyProof.Rows.args_cons ?_ rfl) rfl rfl
  refine Call_ (ld_blt I hg2 hm2 boot_set ?_)
  refine PyProof.Rows.callWith_type1 (PyProof.Rows.args_cons (thn (ha.run pins s σ H _ I h) fun v s1 ⟨x, H1, I1, r1, q1⟩ => PyProof.Rows.args_nil ?_) na) na rfl
  obtain ⟨l, ns, rfl, hq, hl, q1⟩ := q1
  cases r1
  obtain ⟨its, r, pl, hz⟩ := I1.list hq
  have hlen : its.toArray.size = ns.length := by rw [List.size_toArray, ← r.length, List.length_map]
  refine call_set_list (I1.ok.hd hc) pl.isList (by simpa using RZ.intsAre_vals r) (by rw [hlen]; unfold scanBound; omega) fun h' tk hS hk => ?_
  refine PyProof.Rows.args_nil ?_
  rw [hlen] at hS
  have hlt := PyProof.Rows.firstMet_length_le (fun i => ns.getD i 0) ns.length
  have q2 := q1 (PyProof.Rows.firstMet (fun i => ns.getD i 0) ns.length) (firstMet_nd _ _) (firstMet_mem ns)
  generalize PyProof.Rows.firstMet (fun i => ns.getD i 0) ns.length = D at hS hlt q2
  obtain ⟨o, es, ep, t, ho, hex, hd, _, _, _, hf, hn⟩ := hS
  have I2 : Inv X pins σ H1 { s1 with heap := h', toks := tk } := I1.kept fun b o e => hk b o (Heap.lt_size e) e
  exact call_len_set ho hex hd hf (by rw [hn] <;> omega) ⟨.int D.length, H1, I2.tok _, ⟨_, by rw [hn]⟩, q2⟩
theorem eqV_int (a n : Int) : eqV (.int a) (.int n) = decide (a = n) := by
  unfold eqV
  rfl
theorem idx_at {D : List Int} {z : Int} (h : z ∈ D) : D[D.idxOf z]? = some z := by
  have hx := List.idxOf_lt_length_of_mem h
  rw [List.getElem?_eq_getElem hx, List.getElem_idxOf]
theorem idx_ne {D : List Int} {z : Int} (m : Nat) (hm : m < D.idxOf z) : D[m]? ≠ some z := fun e => by
  obtain ⟨h1, h2⟩ := List.getElem?_eq_some_iff.mp e
  have := List.not_of_lt_findIdx (p := (· == z)) (xs := D) (i := m) hm
  simp [h2] at this
/-! ### things that stay -/
inductive Th (K : PySem.W.Frag) (H : Hp) : V → String → Prop
  | int (i : Int) : Th K H (.int i) "int"
  | bl (b : Bool) : Th K H (.bl b) "bool"
  | non : Th K H .non "NoneType"
  | str (z : Str) : Th K H (.str z) "str"
  | lst {a : Addr} {xs : List V} (h : SqL K H a xs) : Th K H (.ref a) "list"
  | tup {a : Addr} {xs : List V} (h : SqT K H a xs) : Th K H (.ref a) "tuple"
  | dK {a : Addr} {xs : List (Key × V)} (h : H a = some (.dK xs)) : Th K H (.ref a) "dict"
theorem Th.thg {K : PySem.W.Frag} {H : Hp} {x : V} {T : String} (t : Th K H x T) : Thg K H x T := by
  cases t with
  | int i => exact thg_int
  | bl b => exact thg_bl
  | non => exact thg_non
  | str z => exact thg_str
  | lst h => exact thg_seq h
  | tup h => exact thg_tup h
  | dK h => exact thg_dK h
theorem Th.same {K : PySem.W.Frag} {H H' : Hp} {x : V} {T : String} (t : Th K H x T) (s : Same H H') : Th K H' x T := by
  cases t with
  | int i => exact .int i
  | bl b => exact .bl b
  | non => exact .non
  | str z => exact .str z
  | lst h => exact .lst (s.seq h)
  | tup h => exact .tup (Same.seqT s h)
  | dK h => exact .dK (s _ _ h)
theorem cut_last (xs : List V) : cutV xs (some (-1)) none = xs.drop (xs.length - 1) := by
  unfold cutV HT.sIx
  dsimp only
  rw [if_pos (by decide), show (-1 + (xs.length : Int)).toNat = xs.length - 1 by omega, List.take_of_length_le (by rw [List.length_drop]; omega)]
theorem tDNewK_n : tDNewK = fun _ H Q => New H (.dK []) fun p H2 => Q (.ref p) H2 := rfl
def rStrI : List V → Hp → VK → Prop := fun xs H Q => ∃ i : Int, xs = [.int i] ∧ i.natAbs.log2 < 1920 ∧ Q (.str (toString i)) H
theorem call_strI {X : Cx} : CallR X (.type "str") rStrI := call_str_int
end Rb

set_option Elab.async false
set_option linter.all false
set_option maxRecDepth 100000
set_option maxHeartbeats 4000000
/-! texts -/
namespace Tx
open PySem PySem.Spec PyProof.Rows L2 Rb SX
def wds (ws : List (List Nat)) : List V := ws.map fun w => V.str (S w)
theorem wds_eq (ws : List (List Nat)) : (ws.map S).map V.str = wds ws := by
  rw [List.map_map]
  rfl
def rJoinS (K : PySem.W.Frag) : V → List V → Hp → VK → Prop := fun x xs H Q => ∃ (a : List Nat) (p : Addr) (ys : List (List Nat)), x = .str (S a) ∧ xs = [.ref p] ∧ (SqL K H p (wds ys) ∨ SqT K H p (wds ys)) ∧ (ys.map (·.length)).sum + ys.length * a.length ≤ 16777216 ∧ Q (.str (S (TL.joinL a ys))) H
theorem mt_joinS {X : Cx} {K : PySem.W.Frag} (h : X.K = K := by rfl) : MtR X "str.join" (rJoinS K) := by
  subst h
  intro pins s σ H x xs v us Q I rx rs q
  obtain ⟨a, p, ys, ex, es, hp, hz, q⟩ := q
  refine mt_join pins s σ H x xs v us Q I rx rs ⟨S a, p, ys.map S, ex, es, ?_, ?_, ?_⟩
  · rw [wds_eq]
    exact hp
  · rw [lens, List.length_map, S_len]
    exact hz
  · rw [join_S]
    exact q
def rSplitS : V → List V → Hp → VK → Prop := fun x xs H Q => ∃ (a b : List Nat), x = .str (S a) ∧ xs = [.str (S b)] ∧ b ≠ [] ∧ b.all (· < 256) = true ∧ a.length ≤ 100000 ∧ New H (.lst (wds (TL.spl b 0 [] a))) fun p H2 => Q (.ref p) H2
theorem mt_splitS {X : Cx} : MtR X "str.split" rSplitS := by
  intro pins s σ H x xs v us Q I rx rs q
  obtain ⟨a, b, ex, es, hb, hk, hz, q⟩ := q
  refine mt_split pins s σ H x xs v us Q I rx rs ⟨S a, S b, ex, es, ?_, ?_, ?_⟩
  · rw [S_len]
    cases b with
    | nil => exact absurd rfl hb
    | cons c r => rfl
  · rw [S_len, sizeLine_eq]
    omega
  · rw [split_S hb hk]
    intro p np
    rw [wds_eq]
    exact q p np
theorem inV_str (n : List Nat) : ∀ ws : List (List Nat), inV (.str (S n)) (wds ws) = decide (n ∈ ws)
  | [] => rfl
  | a :: r => by
    have e : inV (.str (S n)) (wds (a :: r)) = (eqV (.str (S a)) (.str (S n)) || inV (.str (S n)) (wds r)) := rfl
    rw [e, inV_str n r]
    have e2 : eqV (.str (S a)) (.str (S n)) = decide (a = n) := by
      have : eqV (.str (S a)) (.str (S n)) = decide (S a = S n) := by
        unfold eqV
        rfl
      rw [this]
      by_cases h : a = n
      · rw [decide_eq_true h, decide_eq_true (congrArg S h)]
      · rw [decide_eq_false h, decide_eq_false fun g => h (S_inj g)]
    rw [e2]
    by_cases h : a = n
    · subst h
      simp
    · simp [h, Ne.symm h]
theorem flat_wds : ∀ ws : List (List Nat), (wds ws).all flatV = true
  | [] => rfl
  | _ :: r => flat_wds r
theorem str_S (z : Str) : z = S z.cps.toList := (S_tl z).symm
theorem pe_gr {X : Cx} {x : Str} {a : Addr} {pos : Pos} (hg : Gl X x) (hm : X.mg x = some (.ref a)) (hd : (x == ("__debug__" : Str)) = false := by decide) : PE X (.Name x pos) (tC (.ref a)) := pe_glob (v := .ref a) hg hm rfl hd
theorem Loop.strL {l : List Nat} {g : TG} {tb : TS} {D : Ends} {σ : L2.St} {H : Hp} (Pv : Nat → L2.St → Hp → Prop) (h0 : Pv 0 σ H)
    (hs : ∀ i c σ H, l[i]? = some c → Pv i σ H → g (.str ⟨#[c]⟩) σ H fun σ2 H2 => tb { D with nx := Pv (i + 1), ct := Pv (i + 1), bk := D.nx } σ2 H2) (hd : ∀ σ H, Pv l.length σ H → D.nx σ H) : Loop (Its (S l)) g tb D σ H :=
  Loop.str (z := S l) Pv h0 (fun i c σ H h p => hs i c σ H (by simpa using h) p) (fun σ H p => hd σ H (by simpa using p))
theorem Cmp.pureS {l : List Nat} {j : Nat} {te : TE} {vs : List Nat} {σ : L2.St} {H1 : Hp} {Q : VK} (f : Nat → V) (hz : l.length ≤ 100000) (hw : ∀ x, wipe ((wipe σ vs).set j (some x)) vs = wipe σ vs)
    (he : ∀ c H2 (R : VK), c ∈ l → Same H1 H2 → (∀ H3, Same H2 H3 → R (f c) H3) → te ((wipe σ vs).set j (some (.str ⟨#[c]⟩))) H2 R)
    (hd : ∀ d H2, H1 d = none → Same H1 H2 → H2 d = some (.lst (l.map f)) → Q (.ref d) H2) : Cmp (Its (S l)) (gName j) tYes te vs σ H1 Q := by
  intro D nD
  refine ⟨fun i m H => m = l.length - i ∧ i ≤ l.length ∧ Same H1 H ∧ H D = some (.lst ((l.take i).map f)), ⟨l.length, rfl, Nat.zero_le _, same_new nD, upd_same⟩, ?_⟩
  rintro i m H ⟨rfl, hi, s2, h2⟩
  have hsz : (S l).cps.size = l.length := by simp
  by_cases hlt : i < l.length
  · refine .inr ⟨show i < (S l).cps.size by omega, fun H' => Same H1 H' ∧ H' D = some (.lst ((l.take (i + 1)).map f)), fun H' ⟨p1, p2⟩ => ⟨l.length - (i + 1), by omega, rfl, hlt, p1, p2⟩, fun x H' y => ?_⟩
    obtain ⟨e, c, hc, ex⟩ := y
    subst e ex
    have hx : l[i]? = some c := by simpa using hc
    refine ⟨hw _, he c _ _ (List.mem_of_getElem? hx) s2 fun H3 s3 => ?_⟩
    refine ⟨_, s3 _ _ h2, sz100l (by rw [List.length_map, List.length_take]; omega), Same.off (s2.trans s3) nD Off.upd, ?_⟩
    rw [upd_same, take_snoc hx, List.map_append]
    rfl
  · have e : i = l.length := by omega
    subst e
    rw [List.take_length] at h2
    exact .inl ⟨show (S l).cps.size ≤ l.length by omega, hd D H nD s2 h2⟩
theorem takes0F {X : Cx} : Takes X (fun _ _ _ _ => False) := takes0
end Tx

set_option Elab.async false
set_option linter.all false
set_option pp.deepTerms true
set_option pp.maxSteps 100000
set_option format.indent 1
set_option format.width 260
set_option maxRecDepth 100000
set_option maxHeartbeats 4000000
namespace K02
open PySem PySem.Spec PyProof.Rows L2 Rb SX Tx
def topS (i : Nat) : Stmt := PySem.Challenge.pw_roomslaid_k02_names_and_numbers.main.body.getD i (.Pass ⟨0, 0, 0, 0⟩)
abbrev s_is_whole : Stmt := topS 6
abbrev s_are_signs : Stmt := topS 7
abbrev s_own_words : Stmt := topS 8
abbrev s_is_name : Stmt := topS 9
abbrev s_number_in : Stmt := topS 10
abbrev s_law_cell : Stmt := topS 12
abbrev s_law_begun : Stmt := topS 13
abbrev s_law_draw : Stmt := topS 14
abbrev s_law_whole : Stmt := topS 15
abbrev s_law_own : Stmt := topS 16
abbrev s_law_word : Stmt := topS 17
abbrev s_law_is_name : Stmt := topS 18
abbrev s_law_figures : Stmt := topS 19
abbrev s_law_number : Stmt := topS 20
abbrev s_law_bounded : Stmt := topS 21
abbrev s_law_truth : Stmt := topS 22
abbrev s_law : Stmt := topS 23
theorem sc_is_whole : FnScope ["thing"] ["thing"] (defScope s_is_whole) := ⟨rfl, rfl, rfl, by decide +kernel, rfl, by decide +kernel, by decide +kernel⟩
theorem sc_are_signs : FnScope ["text", "signs", "sign"] ["text", "signs"] (defScope s_are_signs) := ⟨rfl, rfl, rfl, by decide +kernel, rfl, by decide +kernel, by decide +kernel⟩
theorem sc_own_words : FnScope [] [] (defScope s_own_words) := ⟨rfl, rfl, rfl, by decide +kernel, rfl, by decide +kernel, by decide +kernel⟩
theorem sc_is_name : FnScope ["thing"] ["thing"] (defScope s_is_name) := ⟨rfl, rfl, rfl, by decide +kernel, rfl, by decide +kernel, by decide +kernel⟩
theorem sc_number_in : FnScope ["text", "low", "high"] ["text", "low", "high"] (defScope s_number_in) := ⟨rfl, rfl, rfl, by decide +kernel, rfl, by decide +kernel, by decide +kernel⟩
theorem sc_law_cell : FnScope ["_law_script", "_law_k", "_law_number_here"] ["_law_script", "_law_k"] (defScope s_law_cell) := ⟨rfl, rfl, rfl, by decide +kernel, rfl, by decide +kernel, by decide +kernel⟩
theorem sc_law_begun : FnScope ["_law_cell_here", "_law_rest"] ["_law_cell_here"] (defScope s_law_begun) := ⟨rfl, rfl, rfl, by decide +kernel, rfl, by decide +kernel, by decide +kernel⟩
theorem sc_law_draw : FnScope ["_law_state", "_law_many", "_law_found", "_law_number_here"] ["_law_state", "_law_many"] (defScope s_law_draw) := ⟨rfl, rfl, rfl, by decide +kernel, rfl, by decide +kernel, by decide +kernel⟩
theorem sc_law_whole : FnScope ["_law_found"] ["_law_found"] (defScope s_law_whole) := ⟨rfl, rfl, rfl, by decide +kernel, rfl, by decide +kernel, by decide +kernel⟩
theorem sc_law_own : FnScope ["_law_words"] [] (defScope s_law_own) := ⟨rfl, rfl, rfl, by decide +kernel, rfl, by decide +kernel, by decide +kernel⟩
theorem sc_law_word : FnScope ["_law_state", "_law_letters", "_law_word_here", "_law_way", "_law_at", "_law_k"] ["_law_state"] (defScope s_law_word) := ⟨rfl, rfl, rfl, by decide +kernel, rfl, by decide +kernel, by decide +kernel⟩
theorem sc_law_is_name : FnScope ["_law_word_here", "_law_sign"] ["_law_word_here"] (defScope s_law_is_name) := ⟨rfl, rfl, rfl, by decide +kernel, rfl, by decide +kernel, by decide +kernel⟩
theorem sc_law_figures : FnScope ["_law_state", "_law_text", "_law_k", "_law_way", "_law_at"] ["_law_state"] (defScope s_law_figures) := ⟨rfl, rfl, rfl, by decide +kernel, rfl, by decide +kernel, by decide +kernel⟩
theorem sc_law_number : FnScope ["_law_text", "_law_sign", "_law_number_here"] ["_law_text"] (defScope s_law_number) := ⟨rfl, rfl, rfl, by decide +kernel, rfl, by decide +kernel, by decide +kernel⟩
theorem sc_law_bounded : FnScope ["_law_state", "_law_text", "_law_number_here", "_law_middle", "_law_low", "_law_high", "_law_due", "_law_found"] ["_law_state", "_law_text"] (defScope s_law_bounded) := ⟨rfl, rfl, rfl, by decide +kernel, rfl, by decide +kernel, by decide +kernel⟩
theorem sc_law_truth : FnScope ["_law_found", "_law_due"] ["_law_found", "_law_due"] (defScope s_law_truth) := ⟨rfl, rfl, rfl, by decide +kernel, rfl, by decide +kernel, by decide +kernel⟩
theorem sc_law : FnScope ["_law_script", "_law_words", "_law_k", "_law_state", "_law_word_here", "_law_text", "_law_number_here", "_law_thing", "_law_told"] ["_law_script"] (defScope s_law) := ⟨rfl, rfl, rfl, by decide +kernel, rfl, by decide +kernel, by decide +kernel⟩
local macro_rules | `(tactic| walk_at "rd") => `(tactic| simp only [L2.start, cxOf, tSeq, tAsg, tIfS, tTest, tB, tOp, tUn, tVar, tC, tCB, tCons, tNil, tRet, tRetN, tNext, tDrop, tBM, tBM0, tLst_n, tTup_n, tAnd, tOr, tNot, tAndV, tOrV, tNotV, tIf, tChain, tCall, gName, gTup, gCons, gNil, gUnl, gSub, rI, rI0, rU, rIxL, rIxT, rSlL_n, tSl, tPart, tNoPart, rCatR, rAppend_n, rExtend_n, rPop_n, rClear_n, rSetL_n, rInsert, rRemI_n, tMake_n, sFld_n, tFld, tMeth, rIn, tFor_n, tLc_n, iRngL1, iRngL2, iList, iTup, iRev, iZip, rDivmod, rListOf, rTupOf, rLenSeq, rMin2, rMax2, rAll, rAny, rIsi, tNever, tYes, wipe, tAug, ipI, rEq, rNe, tIsN, tNotN, tDNewK_n, rIxS, C8.rSlX, rJoinS, rSplitS, tBMS, rIndexX, iStr, tDisp, tPairs, rStrI, rIsB, rNotB, rSlT, rIndex, rRep_n, rInt1, tLenSetS, scal_ii, scal_bb, scal_ss, scal_nn, scal_ni, scal_in, scal_ns, scal_sn, scal_is, scal_si,
  List.map_cons, List.map_nil, List.length_cons, List.length_nil, List.replicate, List.nil_append, List.cons_append, List.append_nil, List.getElem?_cons_zero, List.getElem?_cons_succ, List.set_cons_zero, List.set_cons_succ, List.set_nil, Nat.reduceAdd, Nat.reduceSub,
  Option.some.injEq, V.int.injEq, V.ref.injEq, V.bl.injEq, V.str.injEq, V.ty.injEq, List.cons.injEq, and_assoc, and_true, true_and, exists_eq_left, exists_eq_left', exists_and_left, exists_and_right, exists_eq, exists_eq', exists_eq_right, exists_eq_right', if_true, if_false, Bool.false_eq_true, Bool.not_true, Bool.not_false, if_pos, Int.toNat_natCast, decide_eq_true_eq, Bool.not_eq_true', decide_eq_false_iff_not, reduceCtorEq, false_and, and_false, exists_false, exists_const])
local macro_rules | `(tactic| walk_at "ex") => `(tactic| repeat' (first | assumption | (with_reducible refine Exists.intro _ ?_) | (with_reducible refine And.intro ?_ ?_) | rfl))

/-! ### the law's draws -/
def DSt (H : Hp) (a : Addr) : Prop := ∃ r n c : Int, H a = some (.lst [.int r, .int n, .int c])
def spCell (K : PySem.W.Frag) : Sp := fun vs H Q _ => ∃ (a : Addr) (ns : List Int) (k : Int), vs = [.ref a, .int k] ∧ SqL K H a (ns.map V.int) ∧ 0 ≤ k ∧ k ≤ 1000 ∧ ns.length ≤ 63 ∧ ∀ z, Q (.int z) H
def spBegun : Sp := fun vs H Q _ => ∃ (z : Int), vs = [.int z] ∧ ∀ p H1, H p = none → Same H H1 → DSt H1 p → Q (.ref p) H1
def spDraw : Sp := fun vs H Q _ => ∃ (a : Addr) (m : Int), vs = [.ref a, .int m] ∧ DSt H a ∧ 0 < m ∧ m < 2 ^ 200 ∧ ∀ v H1, 0 ≤ v → v < m → Off a H H1 → DSt H1 a → Q (.int v) H1
section
variable {P : Program} {w : World} {K : PySem.W.Frag} {mg : Str → Option Value} {base : Heap}
theorem ok_cell {f : Addr} {fd : FuncData} (F : Fun K "_law_cell" "_law_cell" s_law_cell f fd) (z_len : mg "len" = none) : FnOk P w K mg base CX0 1 f fd ["_law_script", "_law_k"] (spCell K) := by
  refine F.ok sc_law_cell (fun vs H Q E h => ?_) (fun cdv A outer s H vs Q E hr h => ?_)
  · obtain ⟨a, ns, k, rfl, _⟩ := h
    rfl
  · obtain ⟨a, ns, k, rfl, hS, hk, hk2, hl, q⟩ := h
    refine ⟨_, (pss_cons (ps_if (pt_cmpR op_lt (pv 1) (pe_callB (call_lenR (K := K)) (by rfl) z_len (by decide +kernel) (pa_cons (pv 0) pa_nil)) (nomark _)) (pss_one (ps_ret (pe_ix (ix_listK (K := K)) (pv 0) (pv 1) (fun _ _ => rfl)))) pss_nil)
      (pss_cons (ps_set (i := 2) sc_law_cell.nd rfl (by first | exact Or.inl rfl | exact Or.inr rfl) (pe_op op_add (pe_op op_mul (pv 1) pe_int) pe_int))
      (pss_cons (ps_if (pt_cmpR op_gt (pe_callB (call_lenR (K := K)) (by rfl) z_len (by decide +kernel) (pa_cons (pv 0) pa_nil)) pe_int (nomark _)) (pss_one (ps_set (i := 2) sc_law_cell.nd rfl (by first | exact Or.inl rfl | exact Or.inr rfl) (pe_op op_modN (pe_op op_add (pe_op op_mul (pe_ix (ix_listK (K := K)) (pv 0) (pe_op op_modN (pe_op op_mul (pv 1) pe_int) (pe_callB (call_lenR (K := K)) (by rfl) z_len (by decide +kernel) (pa_cons (pv 0) pa_nil))) (fun _ _ => rfl)) pe_int) (pe_op op_mul (pv 1) pe_int)) pe_int))) pss_nil)
      (pss_one (ps_ret (pe_op op_modN (pe_op op_mulX (pv 2) (pv 2)) pe_int)))))), ?_⟩
    walk_at "rd"
    have atk : ∀ j : Int, 0 ≤ j → j < (ns.map V.int).length → ∃ z, atI (ns.map V.int) j = some (V.int z) := fun j h0 h1 => by
      have hj : j.toNat < ns.length := by rw [List.length_map] at h1; omega
      refine ⟨ns[j.toNat], at_of (j := j.toNat) (by omega) ?_⟩
      rw [List.getElem?_map, List.getElem?_eq_getElem hj]
      rfl
    refine ⟨_, .inl hS, ite2 (fun c => ?_) (fun c => ?_)⟩
    · obtain ⟨z, hz⟩ := atk k hk c
      exact ⟨_, hS, _, hz, q z⟩
    · refine ⟨.inr ⟨by decide, by decide⟩, _, .inl hS, ite2 (fun c2 => ?_) (fun c2 => ?_)⟩
      · have m1 := Int.fmod_nonneg_of_pos (k * 7) c2
        have m2 := Int.fmod_lt_of_pos (k * 7) c2
        obtain ⟨z, hz⟩ := atk _ m1 m2
        refine ⟨.inr ⟨by decide, by decide⟩, _, .inl hS, by omega, _, hS, _, hz, _, rfl, .inr ⟨by decide, by decide⟩, .inr ⟨by decide, by decide⟩, by decide, ?_, by decide, q _⟩
        have p1 := Int.fmod_nonneg_of_pos (z * 48271 + k * 7919) (show (0 : Int) < 2147483647 by decide)
        have p2 := Int.fmod_lt_of_pos (z * 48271 + k * 7919) (show (0 : Int) < 2147483647 by decide)
        exact mulx_ok (a := 40) (b := 40) (by omega) (by omega) (by decide)
      · exact ⟨mulx_ok (a := 40) (b := 40) (by omega) (by omega) (by decide), by decide, q _⟩
theorem ok_begun {f : Addr} {fd : FuncData} (F : Fun K "_law_begun" "_law_begun" s_law_begun f fd) : FnOk P w K mg base CX0 1 f fd ["_law_cell_here"] spBegun := by
  refine F.ok sc_law_begun (fun vs H Q E h => ?_) (fun cdv A outer s H vs Q E hr h => ?_)
  · obtain ⟨z, rfl, _⟩ := h
    rfl
  · obtain ⟨z, rfl, q⟩ := h
    refine ⟨_, (pss_cons (ps_set (i := 1) sc_law_begun.nd rfl (by first | exact Or.inl rfl | exact Or.inr rfl) pe_int)
      (pss_cons (ps_if (pt_cmpR op_ge (pv 0) (pe_op op_pow pe_int pe_int) (nomark _)) (pss_one (ps_set (i := 1) sc_law_begun.nd rfl (by first | exact Or.inl rfl | exact Or.inr rfl) (pv 0))) pss_nil)
      (pss_one (ps_ret (pe_lst (pa_cons (pv 1) (pa_cons pe_int (pa_cons (pe_op op_modN (pv 0) pe_int) pa_nil)))))))), ?_⟩
    walk_at "rd"
    refine ⟨⟨by decide, by decide, by decide⟩, ite2 (fun c => ?_) (fun c => ?_)⟩
    all_goals exact ⟨by decide, by decide, New.intro fun p H1 np s1 h1 => q p H1 np s1 ⟨_, _, _, h1⟩⟩
theorem ok_draw {f : Addr} {fd : FuncData} (F : Fun K "_law_draw" "_law_draw" s_law_draw f fd) : FnOk P w K mg base CX0 1 f fd ["_law_state", "_law_many"] spDraw := by
  refine F.ok sc_law_draw (fun vs H Q E h => ?_) (fun cdv A outer s H vs Q E hr h => ?_)
  · obtain ⟨a, m, rfl, _⟩ := h
    rfl
  · obtain ⟨a, m, rfl, ⟨r, n, c, h0⟩, hm, hm2, q⟩ := h
    refine ⟨_, (pss_cons (ps_if (pt_cmpR op_gt (pe_ix (ix_listK (K := K)) (pv 0) pe_int (fun _ _ => rfl)) pe_int (nomark _)) (pss_cons (ps_set (i := 2) sc_law_draw.nd rfl (by first | exact Or.inl rfl | exact Or.inr rfl) (pe_op op_modN (pe_ix (ix_listK (K := K)) (pv 0) pe_int (fun _ _ => rfl)) (pv 1)))
      (pss_cons (ps_asg (pe_op op_fdivW (pe_ix (ix_listK (K := K)) (pv 0) pe_int (fun _ _ => rfl)) (pv 1)) (pg_sub (pv 0) pe_int set_list))
      (pss_one (ps_ret (pv 2))))) pss_nil)
      (pss_cons (ps_asg (pe_op op_add (pe_ix (ix_listK (K := K)) (pv 0) pe_int (fun _ _ => rfl)) pe_int) (pg_sub (pv 0) pe_int set_list))
      (pss_cons (ps_set (i := 3) sc_law_draw.nd rfl (by first | exact Or.inl rfl | exact Or.inr rfl) (pe_op op_modN (pe_op op_add (pe_op op_mul (pe_ix (ix_listK (K := K)) (pv 0) pe_int (fun _ _ => rfl)) pe_int) (pe_op op_mul (pe_ix (ix_listK (K := K)) (pv 0) pe_int (fun _ _ => rfl)) pe_int)) pe_int))
      (pss_cons (ps_set (i := 3) sc_law_draw.nd rfl (by first | exact Or.inl rfl | exact Or.inr rfl) (pe_op op_modN (pe_op op_add (pe_op op_mulX (pv 3) (pv 3)) (pe_op op_mul (pe_ix (ix_listK (K := K)) (pv 0) pe_int (fun _ _ => rfl)) pe_int)) pe_int))
      (pss_one (ps_ret (pe_op op_modN (pe_op op_modN (pe_op op_mulX (pv 3) (pv 3)) pe_int) (pv 1)))))))), ?_⟩
    walk_at "rd"
    have sq : ∀ {H1 : Hp} {r n c : Int}, H1 a = some (.lst [.int r, .int n, .int c]) → SqL K H1 a [.int r, .int n, .int c] := fun h => seq_of h
    refine ⟨_, sq h0, _, rfl, _, rfl, ite2 (fun d => ?_) (fun d => ?_)⟩
    · refine ⟨_, sq h0, _, rfl, _, rfl, by omega, _, sq h0, _, rfl, _, rfl, wide_div (b := 200) hm (by omega) (by decide) (by decide), _, h0, _, rfl, Upd.intro fun H2 o2 h2 => ?_⟩
      exact q _ _ (Int.fmod_nonneg_of_pos _ hm) (Int.fmod_lt_of_pos _ hm) o2 ⟨_, _, _, h2⟩
    · refine ⟨_, sq h0, _, rfl, _, rfl, _, h0, _, rfl, Upd.intro fun H1 o1 h1 => ?_⟩
      have p1 := Int.fmod_nonneg_of_pos (c * 48271 + (n + 1) * 1299709) (show (0 : Int) < 2147483647 by decide)
      have p2 := Int.fmod_lt_of_pos (c * 48271 + (n + 1) * 1299709) (show (0 : Int) < 2147483647 by decide)
      refine ⟨_, sq h1, _, rfl, _, rfl, .inr ⟨by decide, by decide⟩, _, sq h1, _, rfl, _, rfl, .inr ⟨by decide, by decide⟩, by decide, mulx_ok (a := 40) (b := 40) (by omega) (by omega) (by decide), _, sq h1, _, rfl, _, rfl, .inr ⟨by decide, by decide⟩, by decide, ?_⟩
      have q1 := Int.fmod_nonneg_of_pos ((c * 48271 + (n + 1) * 1299709).fmod 2147483647 * (c * 48271 + (n + 1) * 1299709).fmod 2147483647 + (n + 1) * 7919) (show (0 : Int) < 2147483629 by decide)
      have q2 := Int.fmod_lt_of_pos ((c * 48271 + (n + 1) * 1299709).fmod 2147483647 * (c * 48271 + (n + 1) * 1299709).fmod 2147483647 + (n + 1) * 7919) (show (0 : Int) < 2147483629 by decide)
      refine ⟨mulx_ok (a := 40) (b := 40) (by omega) (by omega) (by decide), by decide, by omega, ?_⟩
      exact q _ _ (Int.fmod_nonneg_of_pos _ hm) (Int.fmod_lt_of_pos _ hm) o1 ⟨_, _, _, h1⟩
end

/-! ### words.py -/
def spIsWhole (K : PySem.W.Frag) : Sp := fun vs H Q _ => ∃ (x : V) (T : String), vs = [x] ∧ Thg K H x T ∧ Q (.bl (isWh x)) H
section
variable {P : Program} {w : World} {K : PySem.W.Frag} {mg : Str → Option Value} {base : Heap}
theorem ok_isWhole {f : Addr} {fd : FuncData} (F : Fun K "is_whole" "is_whole" s_is_whole f fd) (z_isinstance : mg "isinstance" = none) (z_int : mg "int" = none) (z_bool : mg "bool" = none) : FnOk P w K mg base CX0 1 f fd ["thing"] (spIsWhole K) := by
  refine F.ok sc_is_whole (fun vs H Q E h => ?_) (fun cdv A outer s H vs Q E hr h => ?_)
  · obtain ⟨x, T, rfl, _⟩ := h
    rfl
  · obtain ⟨x, T, rfl, t, q⟩ := h
    refine ⟨_, (pss_one (ps_ret (pe_and (pe_callB (call_isiK' (K := K)) (by rfl) z_isinstance (by decide +kernel) (pa_cons (pv 0) (pa_cons (pe_bltn (v := V.ty "int") (u := Value.type "int") (by rfl) z_int (by decide +kernel) rfl) pa_nil))) (pe_one (pe_not (pe_callB (call_isiK' (K := K)) (by rfl) z_isinstance (by decide +kernel) (pa_cons (pv 0) (pa_cons (pe_bltn (v := V.ty "bool") (u := Value.type "bool") (by rfl) z_bool (by decide +kernel) rfl) pa_nil)))))))), ?_⟩
    walk_at "rd"
    have e := isWh_of t
    refine isiT t (by decide) (ite2 (fun c => isiT t (by decide) ?_) (fun c => ?_))
    · rw [c, Bool.true_and] at e
      rw [e]
      exact q
    · rw [Bool.eq_false_iff.mpr c, Bool.false_and] at e
      rw [e]
      exact q
end

section
variable {P : Program} {w : World} {K : PySem.W.Frag} {mg : Str → Option Value} {base : Heap}
def spLWhole (K : PySem.W.Frag) : Sp := fun vs H Q _ => ∃ (x : V) (T : String), vs = [x] ∧ Thg K H x T ∧ Q (.bl (isWh x)) H
theorem ok_lwhole {f : Addr} {fd : FuncData} (F : Fun K "_law_whole" "_law_whole" s_law_whole f fd) (z_isinstance : mg "isinstance" = none) (z_int : mg "int" = none) (z_bool : mg "bool" = none) : FnOk P w K mg base CX0 1 f fd ["_law_found"] (spLWhole K) := by
  refine F.ok sc_law_whole (fun vs H Q E h => ?_) (fun cdv A outer s H vs Q E hr h => ?_)
  · obtain ⟨x, T, rfl, _⟩ := h
    rfl
  · obtain ⟨x, T, rfl, t, q⟩ := h
    refine ⟨_, (pss_one (ps_ret (pe_and (pe_callB (call_isiK' (K := K)) (by rfl) z_isinstance (by decide +kernel) (pa_cons (pv 0) (pa_cons (pe_bltn (v := V.ty "int") (u := Value.type "int") (by rfl) z_int (by decide +kernel) rfl) pa_nil))) (pe_one (pe_not (pe_callB (call_isiK' (K := K)) (by rfl) z_isinstance (by decide +kernel) (pa_cons (pv 0) (pa_cons (pe_bltn (v := V.ty "bool") (u := Value.type "bool") (by rfl) z_bool (by decide +kernel) rfl) pa_nil)))))))), ?_⟩
    walk_at "rd"
    have e := isWh_of t
    refine isiT t (by decide) (ite2 (fun c => isiT t (by decide) ?_) (fun c => ?_))
    · rw [c, Bool.true_and] at e
      rw [e]
      exact q
    · rw [Bool.eq_false_iff.mpr c, Bool.false_and] at e
      rw [e]
      exact q
end

/-! ### letters by draws -/
theorem DSt.keep {H H1 : Hp} {t : Addr} (d : DSt H t) (s : Same H H1) : DSt H1 t := by
  obtain ⟨r, n, c, h⟩ := d
  exact ⟨r, n, c, s _ _ h⟩
theorem DSt.apart {H : Hp} {t D : Addr} (d : DSt H t) (h : H D = none) : D ≠ t := by
  obtain ⟨r, n, c, h1⟩ := d
  intro e
  rw [e, h1] at h
  cases h
theorem pickS {l : List Nat} {v : Int} (h0 : 0 ≤ v) (h1 : v < l.length) : ∃ c, c ∈ l ∧ atI (S l).cps.toList v = some c := by
  have hj : v.toNat < l.length := by omega
  refine ⟨l[v.toNat], List.getElem_mem hj, ?_⟩
  show atI l v = some (l[v.toNat])
  have e := atI_nat (j := v.toNat) (List.getElem?_eq_getElem hj)
  rw [show ((v.toNat : Nat) : Int) = v by omega] at e
  exact e
theorem pickW {l : List (List Nat)} {v : Int} (h0 : 0 ≤ v) (h1 : v < l.length) : ∃ c, c ∈ l ∧ atI (wds l) v = some (.str (S c)) := by
  have hj : v.toNat < l.length := by omega
  refine ⟨l[v.toNat], List.getElem_mem hj, at_of (j := v.toNat) (by omega) ?_⟩
  unfold wds
  rw [List.getElem?_map, List.getElem?_eq_getElem hj]
  rfl
theorem Cmp.letters {lo : Int} {n j : Nat} {te : TE} {vs : List Nat} {σ : L2.St} {H1 : Hp} {Q : VK} {t : Addr} (d0 : DSt H1 t) (hn : n ≤ 1000) (hw : ∀ x, wipe ((wipe σ vs).set j (some x)) vs = wipe σ vs)
    (he : ∀ x H2 (R : VK), Off t H1 H2 → DSt H2 t → (∀ c H3, Off t H2 H3 → DSt H3 t → R (.str ⟨#[c]⟩) H3) → te ((wipe σ vs).set j (some x)) H2 R)
    (hd : ∀ D (cs : List Nat) H2, cs.length = n → Off t H1 H2 → DSt H2 t → H2 D = some (.lst (wds (cs.map fun c => [c]))) → Q (.ref D) H2) : Cmp (Itr lo n) (gName j) tYes te vs σ H1 Q := by
  refine Cmp.range (fun D i acc H => H1 D = none ∧ Off t H1 H ∧ DSt H t ∧ ∃ cs : List Nat, acc = wds (cs.map fun c => [c]) ∧ cs.length = i ∧ H D = some (.lst acc)) (fun D H2 nD s h => ⟨nD, Off.of s, d0.keep s, [], rfl, rfl, h⟩) ?_ ?_
  · rintro D i acc H Nx hi ha ⟨nD, o, d, cs, rfl, e, h⟩ nx
    refine ⟨hw _, he _ _ _ o d fun c H3 o3 d3 => ?_⟩
    have nt := d0.apart nD
    refine ⟨_, o3 _ _ nt h, sz100l (by unfold wds; rw [List.length_map, List.length_map]; omega), ?_⟩
    have e2 : wds (cs.map fun c => [c]) ++ [V.str ⟨#[c]⟩] = wds ((cs ++ [c]).map fun c => [c]) := by
      unfold wds
      rw [List.map_append, List.map_append]
      rfl
    rw [e2]
    refine nx _ _ (by unfold wds; rw [List.length_map, List.length_map, List.length_append]; simp; omega) ⟨nD, ?_, ?_, cs ++ [c], rfl, by simp; omega, upd_same⟩
    · intro b u nb hb
      rw [upd_ne (ne_of_none hb nD)]
      exact o3 _ _ nb (o _ _ nb hb)
    · obtain ⟨r, k, c, h1⟩ := d3
      exact ⟨r, k, c, by rw [upd_ne (Ne.symm nt)]; exact h1⟩
  · rintro D acc H ha ⟨nD, o, d, cs, rfl, e, h⟩
    exact hd D cs H e o d h
theorem join_flat : ∀ ys : List (List Nat), TL.joinL [] ys = ys.flatten
  | [] => rfl
  | [p] => by
    show p = [p].flatten
    simp
  | p :: q :: r => by
    show p ++ ([] ++ TL.joinL [] (q :: r)) = _
    rw [join_flat (q :: r)]
    simp
theorem flat_one (cs : List Nat) : (cs.map fun c => [c]).flatten = cs := by
  induction cs with
  | nil => rfl
  | cons c r ih =>
    rw [List.map_cons, List.flatten_cons, ih]
    rfl
theorem join_one (cs : List Nat) : TL.joinL [] (cs.map fun c => [c]) = cs := by rw [join_flat, flat_one]
theorem sum_one (cs : List Nat) : ((cs.map fun c => [c]).map fun x => x.length).sum = cs.length := by
  induction cs with
  | nil => rfl
  | cons c r ih =>
    rw [List.map_cons, List.map_cons, List.sum_cons, ih]
    show 1 + r.length = r.length + 1
    omega
theorem lt1 (a b : Nat) : decide ([a] < [b]) = decide (a < b) := by
  apply decide_eq_decide.mpr
  constructor
  · intro h
    cases h with
    | rel h => exact h
    | cons h => cases h
  · intro h
    exact .rel h
theorem cmpS {R : Bool → Prop} {a b c : Nat} (r : R (decide (a ≤ c ∧ c ≤ b))) : if ¬ [c] < [a] then R (!decide ([b] < [c])) else R false := by
  have h1 : [c] < [a] ↔ c < a := decide_eq_decide.mp (lt1 c a)
  refine ite2 (fun g => ?_) (fun g => ?_)
  · rw [lt1]
    have g2 : a ≤ c := by
      have : ¬ c < a := fun h => g (h1.mpr h)
      omega
    by_cases g3 : c ≤ b
    · rw [decide_eq_true ⟨g2, g3⟩] at r
      rw [decide_eq_false (show ¬ b < c by omega)]
      exact r
    · rw [decide_eq_false (fun h => g3 h.2)] at r
      rw [decide_eq_true (show b < c by omega)]
      exact r
  · have g2 := h1.mp (Classical.not_not.mp g)
    rw [decide_eq_false (show ¬ (a ≤ c ∧ c ≤ b) by omega)] at r
    exact r
theorem str_small {n : Nat} (h : n < 1000000) : (n : Int).natAbs.log2 < 1920 := by
  by_cases h0 : n = 0
  · subst h0
    decide
  · have : (n : Int).natAbs = n := Int.natAbs_natCast n
    rw [this]
    exact (Nat.log2_lt h0).mpr (Nat.lt_of_lt_of_le h (Nat.le_trans (by decide : 1000000 ≤ 2 ^ 20) (Nat.pow_le_pow_right (by decide) (show 20 ≤ 1920 by decide))))

/-! ### the mathematics -/
def ownT : List Str := ["shape", "num", "row", "pick", "tag", "room", "things", "part", "tags", "put", "take", "many", "look", "which", "store", "choose", "copy", "each", "span", "if", "else", "end", "out"]
def ownL : List (List Nat) := ownT.map fun z => z.cps.toList
theorem ownT_wds : ownT.map V.str = wds ownL := by
  unfold wds ownL
  rw [List.map_map]
  rfl
def isNameL (l : List Nat) : Bool := decide (1 ≤ l.length) && decide (l.length ≤ 6) && l.all (fun c => decide (97 ≤ c ∧ c ≤ 122)) && !decide (l ∈ ownL)
def numL (l : List Nat) : Option Nat := if 1 ≤ l.length ∧ l.length ≤ 10 ∧ l.all (fun c => decide (48 ≤ c ∧ c ≤ 57)) = true ∧ ¬ (l.head? = some 48 ∧ 1 < l.length) then some (NumText.digitsVal l) else none
def nameV : V → Bool
  | .str z => isNameL z.cps.toList
  | _ => false
def optV : Option Nat → V
  | some n => .int (n : Int)
  | none => .non
def withinV (o : Option Nat) (lo hi : Int) : V := match o with
  | some n => if lo ≤ (n : Int) ∧ (n : Int) ≤ hi then .int (n : Int) else .non
  | none => .non
def numV (x : V) (lo hi : Int) : V := match x with
  | .str z => withinV (numL z.cps.toList) lo hi
  | _ => .non
def alphaL : List Nat := (List.range 26).map (· + 97)
def figL : List Nat := (List.range 10).map (· + 48)
theorem eLet : Str.ofString "abcdefghijklmnopqrstuvwxyz" = S alphaL := by decide +kernel
theorem eFig : Str.ofString "0123456789" = S figL := by decide +kernel
theorem e_0 : Str.ofString "0" = S [48] := by decide +kernel
theorem e_9 : Str.ofString "9" = S [57] := by decide +kernel
theorem e_a : Str.ofString "a" = S [97] := by decide +kernel
theorem e_z : Str.ofString "z" = S [122] := by decide +kernel
theorem e_no : Str.ofString "" = S [] := by decide +kernel
theorem alpha_mem (c : Nat) : decide (c ∈ alphaL) = decide (97 ≤ c ∧ c ≤ 122) := by
  apply decide_eq_decide.mpr
  unfold alphaL
  rw [List.mem_map]
  constructor
  · rintro ⟨k, hk, rfl⟩
    have := List.mem_range.mp hk
    omega
  · rintro ⟨h1, h2⟩
    exact ⟨c - 97, List.mem_range.mpr (by omega), by omega⟩
theorem fig_mem (c : Nat) : decide (c ∈ figL) = decide (48 ≤ c ∧ c ≤ 57) := by
  apply decide_eq_decide.mpr
  unfold figL
  rw [List.mem_map]
  constructor
  · rintro ⟨k, hk, rfl⟩
    have := List.mem_range.mp hk
    omega
  · rintro ⟨h1, h2⟩
    exact ⟨c - 48, List.mem_range.mpr (by omega), by omega⟩
theorem own_len : ∀ w ∈ ownL, 2 ≤ w.length ∧ w.length ≤ 6 := by decide +kernel
theorem idx_fig {c : Nat} (h : 48 ≤ c) (h2 : c ≤ 57) : Txt.index0 (Str.ofString "0123456789") (S [c]) = some (c - 48) := by
  have hc : c = 48 ∨ c = 49 ∨ c = 50 ∨ c = 51 ∨ c = 52 ∨ c = 53 ∨ c = 54 ∨ c = 55 ∨ c = 56 ∨ c = 57 := by omega
  rcases hc with rfl | rfl | rfl | rfl | rfl | rfl | rfl | rfl | rfl | rfl <;> decide +kernel
theorem digits_snoc (l : List Nat) (c : Nat) : NumText.digitsVal (l ++ [c]) = NumText.digitsVal l * 10 + (c - 48) := by
  unfold NumText.digitsVal
  rw [List.foldl_append]
  rfl
/-! ### the promises -/
def spAre : Sp := fun vs H Q _ => ∃ (l sg : List Nat), vs = [.str (S l), .str (S sg)] ∧ l.length ≤ 1000 ∧ Q (.bl (l.all fun c => decide (c ∈ sg))) H
def spOwn : Sp := fun vs H Q _ => vs = [] ∧ ∀ p H1, H p = none → Same H H1 → H1 p = some (.lst (wds ownL)) → Q (.ref p) H1
def spIsName (K : PySem.W.Frag) : Sp := fun vs H Q _ => ∃ (x : V) (T : String), vs = [x] ∧ Th K H x T ∧ (∀ z, x = .str z → z.length ≤ 1000) ∧ Q (.bl (nameV x)) H
def spNumIn (K : PySem.W.Frag) : Sp := fun vs H Q _ => ∃ (x : V) (T : String) (lo hi : Int), vs = [x, .int lo, .int hi] ∧ Th K H x T ∧ (∀ z, x = .str z → z.length ≤ 1000) ∧ Q (numV x lo hi) H
def spWord : Sp := fun vs H Q _ => ∃ (t : Addr), vs = [.ref t] ∧ DSt H t ∧ ∀ (l : List Nat) H1, l.length ≤ 20 → Off t H H1 → DSt H1 t → Q (.str (S l)) H1
def spLIsName : Sp := fun vs H Q _ => ∃ (l : List Nat), vs = [.str (S l)] ∧ l.length ≤ 1000 ∧ ∀ H1, Same H H1 → Q (.bl (isNameL l)) H1
def spLNumber : Sp := fun vs H Q _ => ∃ (l : List Nat), vs = [.str (S l)] ∧ l.length ≤ 1000 ∧ ∀ H1, Same H H1 → Q (optV (numL l)) H1
def spBounded : Sp := fun vs H Q _ => ∃ (t : Addr) (l : List Nat), vs = [.ref t, .str (S l)] ∧ DSt H t ∧ l.length ≤ 1000 ∧ ∀ H1, Off t H H1 → DSt H1 t → Q (.bl true) H1
def spTruth : Sp := fun vs H Q _ => ∃ (b : Bool), vs = [.bl b, .bl b] ∧ Q (.bl true) H
def spLaw (K : PySem.W.Frag) : Sp := fun vs H Q _ => ∃ (a : Addr) (ns : List Int), vs = [.ref a] ∧ SqL K H a (ns.map V.int) ∧ ns.length ≤ 63 ∧ ∀ H', Q (.bl true) H'
section
variable {P : Program} {w : World} {K : PySem.W.Frag} {mg : Str → Option Value} {base : Heap}
theorem ok_are {f : Addr} {fd : FuncData} (F : Fun K "are_signs" "are_signs" s_are_signs f fd) : FnOk P w K mg base CX0 1 f fd ["text", "signs"] spAre := by
  refine F.ok sc_are_signs (fun vs H Q E h => ?_) (fun cdv A outer s H vs Q E hr h => ?_)
  · obtain ⟨l, sg, rfl, _⟩ := h
    rfl
  · obtain ⟨l, sg, rfl, hl, q⟩ := h
    refine ⟨_, (pss_cons (ps_for PassesOwn.never rfl (pi_str (pv 0)) (pg_name (i := 2) sc_are_signs.nd rfl (by first | exact Or.inl rfl | exact Or.inr rfl)) (pss_one (ps_if (pt_cmpR op_notIn_sign (pv 2) (pv 1) (by rfl)) (pss_one (ps_ret pe_bl)) pss_nil)))
      (pss_one (ps_ret pe_bl))), ?_⟩
    walk_at "rd"
    refine Loop.strL (fun i σ H1 => ∃ (y : Option V), H1 = H ∧ σ = [some (.str (S l)), some (.str (S sg)), y] ∧ ((l.take i).all fun c => decide (c ∈ sg)) = true) ⟨none, rfl, rfl, rfl⟩ ?_ ?_
    · rintro i c σ H1 hx ⟨y, rfl, rfl, e⟩
      walk_at "rd"
      refine ⟨c, rfl, ite2 (fun g => ?_) (fun g => ?_)⟩
      · have e2 : (l.all fun c => decide (c ∈ sg)) = false := by
          cases e3 : l.all fun c => decide (c ∈ sg) with
          | false => rfl
          | true => exact absurd (of_decide_eq_true (List.all_eq_true.mp e3 c (List.mem_of_getElem? hx))) g
        rw [e2] at q
        exact q
      · rw [take_snoc hx, List.all_append, e, Bool.true_and]
        show (decide (c ∈ sg) && true) = true
        rw [decide_eq_true (Classical.not_not.mp g)]
        rfl
    · rintro σ H1 ⟨y, rfl, rfl, e⟩
      walk_at "rd"
      rw [List.take_length] at e
      rw [e] at q
      exact q
theorem ok_own {f TA_OWN_WORDS : Addr} {fd : FuncData} (F : Fun K "own_words" "own_words" s_own_words f fd) (z_list : mg "list" = none) (c_OWN_WORDS : mg "OWN_WORDS" = some (.ref TA_OWN_WORDS)) (T_OWN_WORDS : ∀ H, SqT K H TA_OWN_WORDS (ownT.map V.str)) : FnOk P w K mg base CX0 1 f fd [] spOwn := by
  refine F.ok sc_own_words (fun vs H Q E h => ?_) (fun cdv A outer s H vs Q E hr h => ?_)
  · obtain ⟨rfl, _⟩ := h
    rfl
  · obtain ⟨rfl, q⟩ := h
    refine ⟨_, (pss_one (ps_ret (pe_callTy (call_listR (K := K)) (by rfl) z_list (by decide +kernel) (pa_cons (pe_gr (by rfl) c_OWN_WORDS) pa_nil)))), ?_⟩
    walk_at "rd"
    refine ⟨_, .inr (T_OWN_WORDS H), New.intro fun p H1 np s1 h1 => q p H1 np s1 ?_⟩
    rw [h1, ownT_wds]
theorem ok_isName {f TA_OWN_WORDS : Addr} {fd : FuncData} (F : Fun K "is_name" "is_name" s_is_name f fd) (z_isinstance : mg "isinstance" = none) (z_str : mg "str" = none) (z_len : mg "len" = none) (c_LONGEST_NAME : ∃ t, mg "LONGEST_NAME" = some (.int 6 t)) (c_LETTERS : ∃ t, mg "LETTERS" = some (.str "abcdefghijklmnopqrstuvwxyz" t)) (c_OWN_WORDS : mg "OWN_WORDS" = some (.ref TA_OWN_WORDS)) (T_OWN_WORDS : ∀ H, SqT K H TA_OWN_WORDS (ownT.map V.str)) (D_are_signs : Dn P w K mg base CX0 1 "are_signs" ["text", "signs"] spAre) : FnOk P w K mg base CX0 2 f fd ["thing"] (spIsName K) := by
  refine F.ok sc_is_name (fun vs H Q E h => ?_) (fun cdv A outer s H vs Q E hr h => ?_)
  · obtain ⟨x, T, rfl, _⟩ := h
    rfl
  · obtain ⟨x, T, rfl, t, hz, q⟩ := h
    refine ⟨_, (pss_cons (ps_if (PW.pt (pw_or (pt_not (pt_val (pe_callB (call_isiK' (K := K)) (by rfl) z_isinstance (by decide +kernel) (pa_cons (pv 0) (pa_cons (pe_bltn (v := V.ty "str") (u := Value.type "str") (by rfl) z_str (by decide +kernel) rfl) pa_nil))))) (pw_or1 (pt_not (pt_chain op_le op_le pe_int (pe_callB call_len_str (by rfl) z_len (by decide +kernel) (pa_cons (pv 0) pa_nil)) (pe_gi (by rfl) c_LONGEST_NAME)))))) (pss_one (ps_ret pe_bl)) pss_nil)
      (pss_one (ps_ret (pe_and (pe_cd D_are_signs (hr.mono (by decide)) (by rfl) pass0 (pa_cons (pv 0) (pa_cons (pe_gs (by rfl) c_LETTERS) pa_nil))) (pe_one (pe_cmpR (op_notIn_seqK (K := K)) (pv 0) (pe_gr (by rfl) c_OWN_WORDS) (by rfl))))))), ?_⟩
    walk_at "rd"
    cases t with
    | str z =>
      obtain ⟨l, rfl⟩ : ∃ l, z = S l := ⟨_, str_S z⟩
      have hl := hz _ rfl
      rw [S_len] at hl
      have q' : Q (.bl (isNameL l)) H := q
      unfold isNameL at q'
      refine isiT thg_str (by decide) (iteN (by decide) ⟨S l, rfl, ?_⟩)
      rw [S_len]
      refine ⟨by rw [sizeLine_eq]; omega, ite2 (fun c1 => ite2 (fun c2 => ?_) (fun c2 => ?_)) (fun c1 => ?_)⟩
      · rw [decide_eq_true (show 1 ≤ l.length by omega), decide_eq_false (show ¬ l.length ≤ 6 by omega)] at q'
        exact q'
      · rw [decide_eq_true (show 1 ≤ l.length by omega), decide_eq_true (show l.length ≤ 6 by omega), Bool.true_and, Bool.true_and] at q'
        have ea : (l.all fun c => decide (c ∈ alphaL)) = l.all fun c => decide (97 ≤ c ∧ c ≤ 122) := by
          congr 1
          funext c
          exact alpha_mem c
        refine ⟨l, alphaL, by rw [eLet], hl, ?_⟩
        rw [ea]
        refine ⟨_, rfl, ite2 (fun c3 => ⟨_, .inr (T_OWN_WORDS H), rfl, by rw [ownT_wds]; exact flat_wds _, ?_⟩) (fun c3 => ?_)⟩
        · rw [ownT_wds, inV_str]
          rw [c3, Bool.true_and] at q'
          exact q'
        · rw [Bool.eq_false_iff.mpr c3, Bool.false_and] at q'
          exact q'
      · rw [decide_eq_false (show ¬ 1 ≤ l.length by omega)] at q'
        exact q'
    | int i => exact isiT thg_int (by decide) (iteP rfl q)
    | bl b => exact isiT thg_bl (by decide) (iteP rfl q)
    | non => exact isiT thg_non (by decide) (iteP rfl q)
    | lst h => exact isiT (thg_seq h) (by decide) (iteP rfl q)
    | tup h => exact isiT (thg_tup h) (by decide) (iteP rfl q)
    | dK h => exact isiT (thg_dK h) (by decide) (iteP rfl q)
theorem ok_numIn {f : Addr} {fd : FuncData} (F : Fun K "number_in" "number_in" s_number_in f fd) (z_isinstance : mg "isinstance" = none) (z_str : mg "str" = none) (z_int : mg "int" = none) (z_len : mg "len" = none) (c_LONGEST_NUMBER : ∃ t, mg "LONGEST_NUMBER" = some (.int 10 t)) (c_FIGURES : ∃ t, mg "FIGURES" = some (.str "0123456789" t)) (D_are_signs : Dn P w K mg base CX0 1 "are_signs" ["text", "signs"] spAre) : FnOk P w K mg base CX0 2 f fd ["text", "low", "high"] (spNumIn K) := by
  refine F.ok sc_number_in (fun vs H Q E h => ?_) (fun cdv A outer s H vs Q E hr h => ?_)
  · obtain ⟨x, T, lo, hi, rfl, _⟩ := h
    rfl
  · obtain ⟨x, T, lo, hi, rfl, t, hz, q⟩ := h
    refine ⟨_, (pss_cons (ps_if (PW.pt (pw_or (pt_not (pt_val (pe_callB (call_isiK' (K := K)) (by rfl) z_isinstance (by decide +kernel) (pa_cons (pv 0) (pa_cons (pe_bltn (v := V.ty "str") (u := Value.type "str") (by rfl) z_str (by decide +kernel) rfl) pa_nil))))) (pw_or (pt_not (pt_chain op_le op_le pe_int (pe_callB call_len_str (by rfl) z_len (by decide +kernel) (pa_cons (pv 0) pa_nil)) (pe_gi (by rfl) c_LONGEST_NUMBER))) (pw_or1 (pt_not (pt_val (pe_cd D_are_signs (hr.mono (by decide)) (by rfl) pass0 (pa_cons (pv 0) (pa_cons (pe_gs (by rfl) c_FIGURES) pa_nil))))))))) (pss_one (ps_ret pe_non)) pss_nil)
      (pss_cons (ps_if (PW.pt (pw_or (PW.pt (pw_and (pt_cmpR op_eq (pe_ix ix_str (pv 0) pe_int (fun _ _ => rfl)) pe_str (nomark _)) (pw_and1 (pt_cmpR op_ne (pv 0) pe_str (nomark _))))) (pw_or1 (pt_not (pt_chain op_le op_le (pv 1) (pe_callTy call_int_str (by rfl) z_int (by decide +kernel) (pa_cons (pv 0) pa_nil)) (pv 2)))))) (pss_one (ps_ret pe_non)) pss_nil)
      (pss_one (ps_ret (pe_callTy call_int_str (by rfl) z_int (by decide +kernel) (pa_cons (pv 0) pa_nil)))))), ?_⟩
    walk_at "rd"
    cases t with
    | str z =>
      obtain ⟨l, rfl⟩ : ∃ l, z = S l := ⟨_, str_S z⟩
      have hl := hz _ rfl
      rw [S_len] at hl
      have q' : Q (withinV (numL l) lo hi) H := q
      have ea : (l.all fun c => decide (c ∈ figL)) = l.all fun c => decide (48 ≤ c ∧ c ≤ 57) := by
        congr 1
        funext c
        exact fig_mem c
      have no : ∀ {P : Prop}, ¬ P → (1 ≤ l.length ∧ l.length ≤ 10 ∧ l.all (fun c => decide (48 ≤ c ∧ c ≤ 57)) = true ∧ ¬ (l.head? = some 48 ∧ 1 < l.length) → P) → Q .non H := fun hP h => by
        unfold numL at q'
        rw [if_neg fun g => hP (h g)] at q'
        exact q'
      have sz : (S l).length ≤ sizeLine := by
        rw [S_len, sizeLine_eq]
        omega
      refine isiT thg_str (by decide) (iteN (by decide) ⟨S l, rfl, sz, ?_⟩)
      rw [S_len]
      refine ite2 (fun c1 => ite2 (fun c2 => no (P := l.length ≤ 10) (by omega) (fun g => g.2.1)) (fun c2 => ?_)) (fun c1 => no (P := 1 ≤ l.length) (by omega) (fun g => g.1))
      refine ⟨l, figL, by rw [eFig], hl, ?_⟩
      rw [ea]
      refine ⟨_, rfl, ite2 (fun c3 => no (P := l.all (fun c => decide (48 ≤ c ∧ c ≤ 57)) = true) (by rw [c3]; decide) (fun g => g.2.2.1)) (fun c3 => ⟨S l, rfl, sz, ?_⟩)⟩
      have hall : l.all (fun c => decide (48 ≤ c ∧ c ≤ 57)) = true := by
        cases e : l.all (fun c => decide (48 ≤ c ∧ c ≤ 57)) with
        | true => rfl
        | false => exact absurd e c3
      obtain ⟨c, r, rfl⟩ : ∃ c r, l = c :: r := by
        cases l with
        | nil => exact absurd c1 (by decide)
        | cons c r => exact ⟨c, r, rfl⟩
      have hint : intText? (S (c :: r)) = some ((NumText.digitsVal (c :: r) : Nat) : Int) := int_S (by
        rw [← hall]
        congr 1
        funext d
        by_cases g1 : 48 ≤ d <;> by_cases g2 : d ≤ 57 <;> simp [g1, g2]) (by simp) (by omega)
      have fin : ¬ (c = 48 ∧ 1 < (c :: r).length) → ∃ a, V.str (S (c :: r)) = V.str a ∧ ∃ x, intText? a = some x ∧ a.length ≤ 640 ∧ if lo ≤ x then if ¬ x ≤ hi then Q .non H else ∃ a, V.str (S (c :: r)) = V.str a ∧ ∃ x, intText? a = some x ∧ a.length ≤ 640 ∧ Q (.int x) H else Q .non H := fun hz0 => by
        have en : numL (c :: r) = some (NumText.digitsVal (c :: r)) := by
          unfold numL
          rw [if_pos ⟨by omega, by omega, hall, fun h => hz0 ⟨Option.some.inj h.1, h.2⟩⟩]
        rw [en] at q'
        unfold withinV at q'
        dsimp only at q'
        have l640 : (S (c :: r)).length ≤ 640 := by
          rw [S_len]
          omega
        refine ⟨_, rfl, _, hint, l640, ite2 (fun g1 => ite2 (fun g2 => ?_) (fun g2 => ⟨_, rfl, _, hint, l640, ?_⟩)) (fun g1 => ?_)⟩
        · rw [if_neg (fun h => g2 h.2)] at q'
          exact q'
        · rw [if_pos ⟨g1, Classical.not_not.mp g2⟩] at q'
          exact q'
        · rw [if_neg (fun h => g1 h.1)] at q'
          exact q'
      refine ⟨c, atI_nat (j := 0) rfl, ?_⟩
      rw [e_0]
      refine ite2 (fun g => ⟨rfl, ite2 (fun g2 => ?_) (fun g2 => ?_)⟩) (fun g => fin (fun h => g (by rw [h.1])))
      · have hc : c = 48 := by
          have := S_inj (a := [c]) (b := [48]) g
          simpa using this
        refine no (P := ¬ (c = 48 ∧ 1 < (c :: r).length)) (fun h => h ⟨hc, ?_⟩) (fun h h3 => h.2.2.2 ⟨congrArg some h3.1, h3.2⟩)
        rw [List.length_cons]
        cases r with
        | nil => exact absurd (by rw [hc]) g2
        | cons => rw [List.length_cons]; omega
      · have e := S_inj (V.str.inj (Classical.not_not.mp g2))
        refine fin (fun h => ?_)
        rw [e] at h
        exact absurd h.2 (by decide)
    | int i => exact isiT thg_int (by decide) (iteP rfl q)
    | bl b => exact isiT thg_bl (by decide) (iteP rfl q)
    | non => exact isiT thg_non (by decide) (iteP rfl q)
    | lst h => exact isiT (thg_seq h) (by decide) (iteP rfl q)
    | tup h => exact isiT (thg_tup h) (by decide) (iteP rfl q)
    | dK h => exact isiT (thg_dK h) (by decide) (iteP rfl q)
theorem ok_lown {f : Addr} {fd : FuncData} (F : Fun K "_law_own" "_law_own" s_law_own f fd) : FnOk P w K mg base CX0 1 f fd [] spOwn := by
  refine F.ok sc_law_own (fun vs H Q E h => ?_) (fun cdv A outer s H vs Q E hr h => ?_)
  · obtain ⟨rfl, _⟩ := h
    rfl
  · obtain ⟨rfl, q⟩ := h
    refine ⟨_, (pss_cons (ps_set (i := 0) sc_law_own.nd rfl (by first | exact Or.inl rfl | exact Or.inr rfl) pe_str)
      (pss_one (ps_ret (pe_op (op_catS (K := K)) (pe_bmK (K := K) PySem.F.plainAttrs_str PySem.F.slot_str_split PySem.F.type_str_split mt_splitS (pv 0) (pa_cons pe_str pa_nil)) (pe_lst (pa_cons pe_str (pa_cons pe_str (pa_cons pe_str pa_nil)))))))), ?_⟩
    walk_at "rd"
    have e1 : Str.ofString "shape num row pick tag room things part tags put take many look which store choose copy each span if" = S (TL.joinL [32] (ownL.take 20)) := by decide +kernel
    have e2 : [V.str (Str.ofString "else"), V.str (Str.ofString "end"), V.str (Str.ofString "out")] = wds (ownL.drop 20) := by
      have h : [Str.ofString "else", Str.ofString "end", Str.ofString "out"] = (ownL.drop 20).map S := by decide +kernel
      have h2 := congrArg (List.map V.str) h
      rw [wds_eq] at h2
      exact h2
    have e3 : TL.spl [32] 0 [] (TL.joinL [32] (ownL.take 20)) = ownL.take 20 := spl_join (c := 32) (sep := []) (by decide +kernel) (by decide +kernel)
    refine ⟨rfl, _, e1, [32], by decide +kernel, by decide, by decide, by decide +kernel, New.intro fun p H1 np s1 h1 => ⟨by decide, New.intro fun p2 H2 n2 s2 h2 => ⟨_, seq_of (s2 _ _ h1), _, seq_of h2, ?_, New.intro fun p3 H3 n3 s3 h3 => ?_⟩⟩⟩
    · rw [e3]
      decide +kernel
    · refine q p3 H3 ((s1.trans s2).free n3) (s1.trans (s2.trans s3)) ?_
      rw [h3, e3, e2]
      unfold wds
      rw [← List.map_append, List.take_append_drop]
theorem ok_word {f : Addr} {fd : FuncData} (F : Fun K "_law_word" "_law_word" s_law_word f fd) (z_len : mg "len" = none) (z_range : mg "range" = none) (D_law_own : Dn P w K mg base CX0 1 "_law_own" [] spOwn) (D_law_draw : Dn P w K mg base CX0 1 "_law_draw" ["_law_state", "_law_many"] spDraw) : FnOk P w K mg base CX0 2 f fd ["_law_state"] spWord := by
  refine F.ok sc_law_word (fun vs H Q E h => ?_) (fun cdv A outer s H vs Q E hr h => ?_)
  · obtain ⟨t, rfl, _⟩ := h
    rfl
  · obtain ⟨t, rfl, d0, q⟩ := h
    refine ⟨_, (pss_cons (ps_set (i := 1) sc_law_word.nd rfl (by first | exact Or.inl rfl | exact Or.inr rfl) pe_str)
      (pss_cons (ps_set (i := 2) sc_law_word.nd rfl (by first | exact Or.inl rfl | exact Or.inr rfl) (pe_ix (ix_listK (K := K)) (pe_cd0 D_law_own (hr.mono (by decide)) (by rfl) pass0) (pe_cd D_law_draw (hr.mono (by decide)) (by rfl) pass0 (pa_cons (pv 0) (pa_cons pe_int pa_nil))) (fun _ _ => rfl)))
      (pss_cons (ps_set (i := 3) sc_law_word.nd rfl (by first | exact Or.inl rfl | exact Or.inr rfl) (pe_cd D_law_draw (hr.mono (by decide)) (by rfl) pass0 (pa_cons (pv 0) (pa_cons pe_int pa_nil))))
      (pss_cons (ps_if (pt_cmpR op_eq (pv 3) pe_int (nomark _)) (pss_one (ps_ret (pv 2))) pss_nil)
      (pss_cons (ps_if (pt_cmpR op_eq (pv 3) pe_int (nomark _)) (pss_one (ps_ret (pe_op op_add_str (pv 2) (pe_ix ix_str (pv 1) (pe_cd D_law_draw (hr.mono (by decide)) (by rfl) pass0 (pa_cons (pv 0) (pa_cons pe_int pa_nil))) (fun _ _ => rfl))))) pss_nil)
      (pss_cons (ps_if (pt_cmpR op_eq (pv 3) pe_int (nomark _)) (pss_one (ps_ret (pe_slice C8.sl_txt (pv 2) po_none (po_some (pe_cd D_law_draw (hr.mono (by decide)) (by rfl) pass0 (pa_cons (pv 0) (pa_cons (pe_callB call_len_str (by rfl) z_len (by decide +kernel) (pa_cons (pv 2) pa_nil)) pa_nil))))))) pss_nil)
      (pss_cons (ps_if (pt_cmpR op_eq (pv 3) pe_int (nomark _)) (pss_cons (ps_set (i := 4) sc_law_word.nd rfl (by first | exact Or.inl rfl | exact Or.inr rfl) (pe_cd D_law_draw (hr.mono (by decide)) (by rfl) pass0 (pa_cons (pv 0) (pa_cons (pe_callB call_len_str (by rfl) z_len (by decide +kernel) (pa_cons (pv 2) pa_nil)) pa_nil))))
      (pss_one (ps_ret (pe_op op_add_str (pe_op op_add_str (pe_slice C8.sl_txt (pv 2) po_none (po_some (pv 4))) (pe_ix ix_str pe_str (pe_cd D_law_draw (hr.mono (by decide)) (by rfl) pass0 (pa_cons (pv 0) (pa_cons pe_int pa_nil))) (fun _ _ => rfl))) (pe_slice C8.sl_txt (pv 2) (po_some (pe_op op_add (pv 4) pe_int)) po_none))))) pss_nil)
      (pss_one (ps_ret (pe_bmK (K := K) PySem.F.plainAttrs_str PySem.F.slot_str_join PySem.F.type_str_join (mt_joinS (K := K)) pe_str (pa_cons (pe_lc (own := [("_law_k", 5)]) (g := gName 5) (tt := tYes) rfl sc_law_word.nd (pi_rangeL1 (by rfl) z_range (pa_cons (pe_cd D_law_draw (hr.mono (by decide)) (by rfl) pass0 (pa_cons (pv 0) (pa_cons pe_int pa_nil))) pa_nil)) (blkOk_by (own := [("_law_k", 5)]) (N := ["_law_state", "_law_letters", "_law_word_here", "_law_way", "_law_at", "_law_k"]) (sc := defScope s_law_word) (by decide +kernel)) (fun _ _ _ _ _ => pg_name (i := 5) sc_law_word.nd rfl (Or.inl rfl)) (fun _ _ _ _ _ => pts_nil) (fun _ _ _ _ _ => (pe_ix ix_str (pv 1) (pe_cd D_law_draw (hr.mono (by decide)) (by rfl) pass0 (pa_cons (pv 0) (pa_cons pe_int pa_nil))) (fun _ _ => rfl)))) pa_nil))))))))))), ?_⟩
    walk_at "rd"
    refine ⟨rfl, fun p H1 np s1 h1 => ?_⟩
    have nt := d0.apart np
    refine ⟨t, 23, rfl, d0.keep s1, by decide, by decide, fun v H2 v0 v1 o2 d2 => ?_⟩
    obtain ⟨w1, hw, aw⟩ := pickW (l := ownL) v0 (by show v < 23; exact v1)
    have wl := own_len _ hw
    have oo : Off t H H2 := (Off.of s1).trans o2
    refine ⟨p, rfl, _, v, rfl, seq_of (o2 _ _ nt h1), _, aw, ?_⟩
    refine ⟨t, 6, rfl, d2, by decide, by decide, fun k H3 k0 k1 o3 d3 => ?_⟩
    have o3' := oo.trans o3
    have szw : (S w1).length ≤ sizeLine := by rw [S_len, sizeLine_eq]; omega
    refine ⟨rfl, ite2 (fun _ => q w1 H3 (by omega) o3' d3) (fun _ => ⟨rfl, ite2 (fun _ => ?_) (fun _ => ⟨rfl, ite2 (fun _ => ?_) (fun _ => ⟨rfl, ite2 (fun _ => ?_) (fun _ => ⟨rfl, ?_⟩)⟩)⟩)⟩)⟩
    · refine ⟨t, 26, rfl, d3, by decide, by decide, fun a H4 a0 a1 o4 d4 => ?_⟩
      rw [eLet]
      obtain ⟨c, _, ac⟩ := pickS (l := alphaL) a0 (by show a < 26; exact a1)
      refine ⟨a, rfl, by decide +kernel, c, ac, S w1, rfl, by rw [S_len, sizeLine_eq]; show w1.length + 1 ≤ _; omega, ?_⟩
      rw [show (⟨#[c]⟩ : Str) = S [c] from rfl, S_cat]
      exact q _ _ (by rw [List.length_append, List.length_singleton]; omega) (o3'.trans o4) d4
    · refine ⟨S w1, rfl, szw, ?_⟩
      rw [S_len]
      refine ⟨t, _, rfl, d3, by omega, Int.lt_of_le_of_lt (b := 6) (by omega) (by decide), fun a H4 a0 a1 o4 d4 => ?_⟩
      refine ⟨a, rfl, S w1, rfl, szw, ?_⟩
      rw [slice_to a0]
      exact q _ _ (by rw [List.length_take]; omega) (o3'.trans o4) d4
    · refine ⟨S w1, rfl, szw, ?_⟩
      rw [S_len]
      refine ⟨t, _, rfl, d3, by omega, Int.lt_of_le_of_lt (b := 6) (by omega) (by decide), fun a H4 a0 a1 o4 d4 => ?_⟩
      refine ⟨a, rfl, S w1, rfl, szw, ?_⟩
      refine ⟨t, 9, rfl, d4, by decide, by decide, fun b H5 b0 b1 o5 d5 => ?_⟩
      have e9 : Str.ofString "aA0 _.-zb" = S [97, 65, 48, 32, 95, 46, 45, 122, 98] := by decide +kernel
      rw [e9]
      obtain ⟨c, _, ac⟩ := pickS (l := [97, 65, 48, 32, 95, 46, 45, 122, 98]) b0 (by show b < 9; exact b1)
      refine ⟨b, rfl, by decide +kernel, c, ac, ?_⟩
      rw [slice_to a0, show (⟨#[c]⟩ : Str) = S [c] from rfl, S_cat]
      refine ⟨by rw [S_len, S_len, sizeLine_eq, List.length_take]; simp; omega, a, rfl, S w1, rfl, szw, ?_⟩
      rw [slice_from (by omega), S_cat, S_len, S_len]
      refine ⟨?_, q _ _ ?_ ((o3'.trans o4).trans o5) d5⟩
      · rw [sizeLine_eq, List.length_append, List.length_take, List.length_drop]
        simp
        omega
      · rw [List.length_append, List.length_append, List.length_take, List.length_drop]
        simp
        omega
    · refine ⟨t, 8, rfl, d3, by decide, by decide, fun a H4 a0 a1 o4 d4 => ?_⟩
      refine ⟨a, rfl, Cmp.letters d4 (by omega) (fun _ => rfl) (fun x H5 R o5 d5 r => ?_) (fun D cs H5 hc o5 d5 h5 => ?_)⟩
      · walk_at "rd"
        refine ⟨t, 26, rfl, d5, by decide, by decide, fun a H4 a0 a1 o4 d4 => ?_⟩
        rw [eLet]
        obtain ⟨c, _, ac⟩ := pickS (l := alphaL) a0 (by show a < 26; exact a1)
        exact ⟨a, rfl, by decide +kernel, c, ac, r _ _ o4 d4⟩
      · refine ⟨[], e_no, D, rfl, _, .inl (seq_of h5), ?_, ?_⟩
        · rw [sum_one]
          simp
          omega
        · rw [join_one]
          exact q _ _ (by omega) (((o3'.trans o4).trans o5)) d5
theorem ok_lisName {f : Addr} {fd : FuncData} (F : Fun K "_law_is_name" "_law_is_name" s_law_is_name f fd) (z_len : mg "len" = none) (z_all : mg "all" = none) (D_law_own : Dn P w K mg base CX0 1 "_law_own" [] spOwn) : FnOk P w K mg base CX0 2 f fd ["_law_word_here"] spLIsName := by
  refine F.ok sc_law_is_name (fun vs H Q E h => ?_) (fun cdv A outer s H vs Q E hr h => ?_)
  · obtain ⟨l, rfl, _⟩ := h
    rfl
  · obtain ⟨l, rfl, hl, q⟩ := h
    refine ⟨_, (pss_cons (ps_if (PW.pt (pw_or (pt_not (pt_chain op_le op_le pe_int (pe_callB call_len_str (by rfl) z_len (by decide +kernel) (pa_cons (pv 0) pa_nil)) pe_int)) (pw_or1 (pt_cmpR (op_in_seqK (K := K)) (pv 0) (pe_cd0 D_law_own (hr.mono (by decide)) (by rfl) pass0) (by rfl))))) (pss_one (ps_ret pe_bl)) pss_nil)
      (pss_one (ps_ret (pe_callB (cr_allK rfl (K := K)) (by rfl) z_all (by decide +kernel) (pa_cons (pe_lc (own := [("_law_sign", 1)]) (g := gName 1) (tt := tYes) rfl sc_law_is_name.nd (pi_str (pv 0)) (blkOk_by (own := [("_law_sign", 1)]) (N := ["_law_word_here", "_law_sign"]) (sc := defScope s_law_is_name) (by decide +kernel)) (fun _ _ _ _ _ => pg_name (i := 1) sc_law_is_name.nd rfl (Or.inl rfl)) (fun _ _ _ _ _ => pts_nil) (fun _ _ _ _ _ => (pe_chain op_le_str op_le_str pe_str (pv 1) pe_str))) pa_nil))))), ?_⟩
    walk_at "rd"
    have szl : (S l).length ≤ sizeLine := by rw [S_len, sizeLine_eq]; omega
    refine ⟨szl, ?_⟩
    rw [S_len]
    unfold isNameL at q
    refine ite2 (fun c1 => ite2 (fun c2 => ?_) (fun c2 => ⟨rfl, fun p H1 np s1 h1 => ⟨p, rfl, _, .inl (seq_of h1), rfl, flat_wds _, ?_⟩⟩)) (fun c1 => ?_)
    · have := q H (Same.refl H)
      rw [decide_eq_true (show 1 ≤ l.length by omega), decide_eq_false (show ¬ l.length ≤ 6 by omega)] at this
      exact this
    · have q1 := q
      rw [decide_eq_true (show 1 ≤ l.length by omega), decide_eq_true (show l.length ≤ 6 by omega), Bool.true_and, Bool.true_and] at q1
      rw [inV_str]
      refine ite2 (fun c3 => ?_) (fun c3 => ?_)
      · have := q1 H1 s1
        rw [c3, Bool.not_true, Bool.and_false] at this
        exact this
      · refine Cmp.pureS (fun c => .bl (decide (97 ≤ c ∧ c ≤ 122))) (by omega) (fun _ => rfl) (fun c H2 R hc s2 r => ?_) (fun d H2 nd s2 h2 => ?_)
        · walk_at "rd"
          rw [e_a, e_z]
          exact cmpS (R := fun b => R (.bl b) H2) (r _ (Same.refl _))
        · refine ⟨d, rfl, l.map fun c => decide (97 ≤ c ∧ c ≤ 122), seq_of (by rw [h2, List.map_map]; rfl), ?_⟩
          have := q1 H2 (s1.trans s2)
          rw [Bool.eq_false_iff.mpr c3, Bool.not_false, Bool.and_true] at this
          rw [List.all_map]
          exact this
    · have := q H (Same.refl H)
      rw [decide_eq_false (show ¬ 1 ≤ l.length by omega)] at this
      exact this
theorem ok_figures {f : Addr} {fd : FuncData} (F : Fun K "_law_figures" "_law_figures" s_law_figures f fd) (z_len : mg "len" = none) (z_range : mg "range" = none) (z_str : mg "str" = none) (D_law_draw : Dn P w K mg base CX0 1 "_law_draw" ["_law_state", "_law_many"] spDraw) : FnOk P w K mg base CX0 2 f fd ["_law_state"] spWord := by
  refine F.ok sc_law_figures (fun vs H Q E h => ?_) (fun cdv A outer s H vs Q E hr h => ?_)
  · obtain ⟨t, rfl, _⟩ := h
    rfl
  · obtain ⟨t, rfl, d0, q⟩ := h
    refine ⟨_, (pss_cons (ps_set (i := 1) sc_law_figures.nd rfl (by first | exact Or.inl rfl | exact Or.inr rfl) (pe_bmK (K := K) PySem.F.plainAttrs_str PySem.F.slot_str_join PySem.F.type_str_join (mt_joinS (K := K)) pe_str (pa_cons (pe_lc (own := [("_law_k", 2)]) (g := gName 2) (tt := tYes) rfl sc_law_figures.nd (pi_rangeL1 (by rfl) z_range (pa_cons (pe_cd D_law_draw (hr.mono (by decide)) (by rfl) pass0 (pa_cons (pv 0) (pa_cons pe_int pa_nil))) pa_nil)) (blkOk_by (own := [("_law_k", 2)]) (N := ["_law_state", "_law_text", "_law_k", "_law_way", "_law_at"]) (sc := defScope s_law_figures) (by decide +kernel)) (fun _ _ _ _ _ => pg_name (i := 2) sc_law_figures.nd rfl (Or.inl rfl)) (fun _ _ _ _ _ => pts_nil) (fun _ _ _ _ _ => (pe_ix ix_str pe_str (pe_cd D_law_draw (hr.mono (by decide)) (by rfl) pass0 (pa_cons (pv 0) (pa_cons pe_int pa_nil))) (fun _ _ => rfl)))) pa_nil)))
      (pss_cons (ps_set (i := 3) sc_law_figures.nd rfl (by first | exact Or.inl rfl | exact Or.inr rfl) (pe_cd D_law_draw (hr.mono (by decide)) (by rfl) pass0 (pa_cons (pv 0) (pa_cons pe_int pa_nil))))
      (pss_cons (ps_if (pt_cmpR op_eq (pv 3) pe_int (nomark _)) (pss_cons (ps_set (i := 4) sc_law_figures.nd rfl (by first | exact Or.inl rfl | exact Or.inr rfl) (pe_cd D_law_draw (hr.mono (by decide)) (by rfl) pass0 (pa_cons (pv 0) (pa_cons (pe_op op_add (pe_callB call_len_str (by rfl) z_len (by decide +kernel) (pa_cons (pv 1) pa_nil)) pe_int) pa_nil))))
      (pss_one (ps_ret (pe_op op_add_str (pe_op op_add_str (pe_slice C8.sl_txt (pv 1) po_none (po_some (pv 4))) (pe_ix ix_str pe_str (pe_cd D_law_draw (hr.mono (by decide)) (by rfl) pass0 (pa_cons (pv 0) (pa_cons pe_int pa_nil))) (fun _ _ => rfl))) (pe_slice C8.sl_txt (pv 1) (po_some (pv 4)) po_none))))) pss_nil)
      (pss_cons (ps_if (pt_cmpR op_eq (pv 3) pe_int (nomark _)) (pss_one (ps_ret (pe_callTy call_strI (by rfl) z_str (by decide +kernel) (pa_cons (pe_cd D_law_draw (hr.mono (by decide)) (by rfl) pass0 (pa_cons (pv 0) (pa_cons pe_int pa_nil))) pa_nil)))) pss_nil)
      (pss_one (ps_ret (pv 1))))))), ?_⟩
    walk_at "rd"
    refine ⟨rfl, ?_⟩
    refine ⟨t, 12, rfl, d0, by decide, by decide, fun a H2 a0 a1 o2 d2 => ?_⟩
    refine ⟨a, rfl, Cmp.letters d2 (by omega) (fun _ => rfl) (fun x H5 R o5 d5 r => ?_) (fun D cs H3 hc o3 d3 h3 => ?_)⟩
    · walk_at "rd"
      refine ⟨t, 10, rfl, d5, by decide, by decide, fun a H4 a0 a1 o4 d4 => ?_⟩
      rw [eFig]
      obtain ⟨c, _, ac⟩ := pickS (l := figL) a0 (by show a < 10; exact a1)
      exact ⟨a, rfl, by decide +kernel, c, ac, r _ _ o4 d4⟩
    · refine ⟨[], e_no, D, rfl, _, .inl (seq_of h3), ?_, ?_⟩
      · rw [sum_one]
        simp
        omega
      · rw [join_one]
        have szc : (S cs).length ≤ sizeLine := by rw [S_len, sizeLine_eq]; omega
        have oo := o2.trans o3
        refine ⟨t, 5, rfl, d3, by decide, by decide, fun k H4 k0 k1 o4 d4 => ⟨rfl, ite2 (fun _ => ?_) (fun _ => ⟨rfl, ite2 (fun _ => ?_) (fun _ => ?_)⟩)⟩⟩
        · refine ⟨szc, ?_⟩
          rw [S_len]
          refine ⟨t, _, rfl, d4, by omega, Int.lt_of_le_of_lt (b := 13) (by omega) (by decide), fun b H5 b0 b1 o5 d5 => ?_⟩
          refine ⟨b, rfl, by rw [← S_len cs]; exact szc, t, 6, rfl, d5, by decide, by decide, fun e H6 e0 e1 o6 d6 => ?_⟩
          have e9 : Str.ofString " +-.a_" = S [32, 43, 45, 46, 97, 95] := by decide +kernel
          rw [e9]
          obtain ⟨c, _, ac⟩ := pickS (l := [32, 43, 45, 46, 97, 95]) e0 (by show e < 6; exact e1)
          refine ⟨e, rfl, by decide +kernel, c, ac, ?_⟩
          rw [slice_to b0, show (⟨#[c]⟩ : Str) = S [c] from rfl, S_cat]
          refine ⟨?_, b, rfl, by rw [← S_len cs]; exact szc, ?_⟩
          all_goals try rw [slice_from b0, S_cat]
          rotate_left
          refine ⟨?_, q _ _ ?_ (((oo.trans o4).trans o5).trans o6) d6⟩
          rotate_left 2
          all_goals try simp only [S_len]
          · rw [sizeLine_eq, List.length_take]
            simp
            omega
          · rw [sizeLine_eq, List.length_append, List.length_take, List.length_drop]
            simp
            omega
          · rw [List.length_append, List.length_append, List.length_take, List.length_drop]
            simp
            omega
        · refine ⟨t, 1000, rfl, d4, by decide, by decide, fun b H5 b0 b1 o5 d5 => ?_⟩
          obtain ⟨n, rfl⟩ : ∃ n : Nat, b = n := ⟨b.toNat, by omega⟩
          refine ⟨n, rfl, str_small (by omega), ?_⟩
          rw [num_S]
          refine q _ _ (Nat.le_trans (TL.numL_len (k := 3) (by decide) (by omega)) (by decide)) ((oo.trans o4).trans o5) d5
        · exact q _ _ (by omega) (oo.trans o4) d4
theorem ok_lnumber {f : Addr} {fd : FuncData} (F : Fun K "_law_number" "_law_number" s_law_number f fd) (z_len : mg "len" = none) (z_all : mg "all" = none) : FnOk P w K mg base CX0 1 f fd ["_law_text"] spLNumber := by
  refine F.ok sc_law_number (fun vs H Q E h => ?_) (fun cdv A outer s H vs Q E hr h => ?_)
  · obtain ⟨l, rfl, _⟩ := h
    rfl
  · obtain ⟨l, rfl, hl, q⟩ := h
    refine ⟨_, (pss_cons (ps_if (PW.pt (pw_or (pt_not (pt_chain op_le op_le pe_int (pe_callB call_len_str (by rfl) z_len (by decide +kernel) (pa_cons (pv 0) pa_nil)) pe_int)) (pw_or (pt_not (pt_val (pe_callB (cr_allK rfl (K := K)) (by rfl) z_all (by decide +kernel) (pa_cons (pe_lc (own := [("_law_sign", 1)]) (g := gName 1) (tt := tYes) rfl sc_law_number.nd (pi_str (pv 0)) (blkOk_by (own := [("_law_sign", 1)]) (N := ["_law_text", "_law_sign", "_law_number_here"]) (sc := defScope s_law_number) (by decide +kernel)) (fun _ _ _ _ _ => pg_name (i := 1) sc_law_number.nd rfl (Or.inl rfl)) (fun _ _ _ _ _ => pts_nil) (fun _ _ _ _ _ => (pe_chain op_le_str op_le_str pe_str (pv 1) pe_str))) pa_nil)))) (pw_or1 (PW.pt (pw_and (pt_cmpR op_eq (pe_ix ix_str (pv 0) pe_int (fun _ _ => rfl)) pe_str (nomark _)) (pw_and1 (pt_cmpR op_gt (pe_callB call_len_str (by rfl) z_len (by decide +kernel) (pa_cons (pv 0) pa_nil)) pe_int (nomark _))))))))) (pss_one (ps_ret pe_non)) pss_nil)
      (pss_cons (ps_set (i := 2) sc_law_number.nd rfl (by first | exact Or.inl rfl | exact Or.inr rfl) pe_int)
      (pss_cons (ps_for PassesOwn.never rfl (pi_str (pv 0)) (pg_name (i := 1) sc_law_number.nd rfl (by first | exact Or.inl rfl | exact Or.inr rfl)) (pss_one (ps_set (i := 2) sc_law_number.nd rfl (by first | exact Or.inl rfl | exact Or.inr rfl) (pe_op op_add (pe_op op_mul pe_int (pv 2)) (pe_bmS PySem.F.plainAttrs_str PySem.F.slot_str_index PySem.F.type_str_index (mt_indexX rfl takes0) pe_str (pa_cons (pv 1) pa_nil))))))
      (pss_one (ps_ret (pv 2)))))), ?_⟩
    walk_at "rd"
    have szl : (S l).length ≤ sizeLine := by rw [S_len, sizeLine_eq]; omega
    refine ⟨szl, ?_⟩
    rw [S_len]
    have no : ∀ {P : Prop} {H1 : Hp}, Same H H1 → ¬ P → (1 ≤ l.length ∧ l.length ≤ 10 ∧ l.all (fun c => decide (48 ≤ c ∧ c ≤ 57)) = true ∧ ¬ (l.head? = some 48 ∧ 1 < l.length) → P) → Q .non H1 := fun s hP h => by
      have := q _ s
      unfold numL at this
      rw [if_neg fun g => hP (h g)] at this
      exact this
    refine ite2 (fun c1 => ite2 (fun c2 => no (Same.refl H) (P := l.length ≤ 10) (by omega) (fun g => g.2.1)) (fun c2 => ?_)) (fun c1 => no (Same.refl H) (P := 1 ≤ l.length) (by omega) (fun g => g.1))
    refine Cmp.pureS (fun c => .bl (decide (48 ≤ c ∧ c ≤ 57))) (by omega) (fun _ => rfl) (fun c H2 R hc s2 r => ?_) (fun d H2 nd s2 h2 => ?_)
    · walk_at "rd"
      rw [e_0, e_9]
      exact cmpS (R := fun b => R (.bl b) H2) (r _ (Same.refl _))
    · refine ⟨d, rfl, l.map fun c => decide (48 ≤ c ∧ c ≤ 57), seq_of (by rw [h2, List.map_map]; rfl), ?_⟩
      rw [List.all_map]
      refine ite2 (fun c3 => no s2 (P := l.all (fun c => decide (48 ≤ c ∧ c ≤ 57)) = true) (by intro h; rw [show (id ∘ fun c => decide (48 ≤ c ∧ c ≤ 57)) = fun c : Nat => decide (48 ≤ c ∧ c ≤ 57) from rfl, h] at c3; cases c3) (fun g => g.2.2.1)) (fun c3 => ⟨szl, ?_⟩)
      have hall : l.all (fun c => decide (48 ≤ c ∧ c ≤ 57)) = true := by
        cases e : l.all (fun c => decide (48 ≤ c ∧ c ≤ 57)) with
        | true => rfl
        | false => exact absurd e c3
      obtain ⟨c, r, rfl⟩ : ∃ c r, l = c :: r := by
        cases l with
        | nil => exact absurd c1 (by decide)
        | cons c r => exact ⟨c, r, rfl⟩
      have fin : ¬ (c = 48 ∧ 1 < (c :: r).length) → ∀ H1, Same H H1 → Q (.int ((NumText.digitsVal (c :: r) : Nat) : Int)) H1 := fun hz0 H1 s => by
        have := q H1 s
        unfold numL at this
        rw [if_pos ⟨by omega, by omega, hall, fun h => hz0 ⟨Option.some.inj h.1, h.2⟩⟩] at this
        exact this
      have loop : ¬ (c = 48 ∧ 1 < (c :: r).length) → ∀ (l : List Nat), l = c :: r → Loop (Its (S l)) (gName 1)
                (tAsg
                 (tOp (rI0 fun i j => V.int (i + j)) (tOp (rI CMul fun i j => V.int (i * j)) (tC (V.int 10)) (tVar 2))
                  (tBMS K "str" (rIndexX fun x x_1 x_2 x_3 => False) (tC (V.str (Str.ofString "0123456789")))
                   (tCons (tVar 1) tNil)))
                 (gName 2))
                { nx := tRet (tVar 2) { nx := fun x H' => Q V.non H', rt := Q }, rt := Q }
                [some (V.str (S l)), none, some (V.int 0)] H2 := fun hz0 l el => by
        refine Loop.strL (fun i σ H1 => ∃ (y : Option V), H1 = H2 ∧ σ = [some (.str (S l)), y, some (.int ((NumText.digitsVal (l.take i) : Nat) : Int))]) ⟨none, rfl, rfl⟩ ?_ ?_
        · rintro i d σ H1 hx ⟨y, rfl, rfl⟩
          walk_at "rd"
          have hd := of_decide_eq_true (List.all_eq_true.mp hall d (el ▸ List.mem_of_getElem? hx))
          have ei := idx_fig hd.1 hd.2
          refine ⟨.inl ⟨by decide, by decide⟩, rfl, fun k hk => ?_, fun hn => ?_⟩
          · rw [show (⟨#[d]⟩ : Str) = S [d] from rfl, ei] at hk
            cases hk
            rw [take_snoc hx, digits_snoc]
            omega
          · rw [show (⟨#[d]⟩ : Str) = S [d] from rfl, ei] at hn
            cases hn
        · rintro σ H1 ⟨y, rfl, rfl⟩
          walk_at "rd"
          rw [List.take_length, el]
          exact fin hz0 _ s2
      refine ⟨c, atI_nat (j := 0) rfl, ?_⟩
      rw [e_0]
      refine ite2 (fun g => ⟨by rw [← S_len]; exact szl, ite2 (fun g2 => ?_) (fun g2 => ?_)⟩) (fun g => loop (fun h => g (by rw [h.1])) _ rfl)
      · have hc : c = 48 := by
          have := S_inj (a := [c]) (b := [48]) g
          simpa using this
        exact no s2 (P := ¬ (c = 48 ∧ 1 < (c :: r).length)) (fun h => h ⟨hc, by omega⟩) (fun h h3 => h.2.2.2 ⟨congrArg some h3.1, h3.2⟩)
      · exact loop (fun h => g2 (by have := h.2; omega)) _ rfl
theorem ok_truth {f : Addr} {fd : FuncData} (F : Fun K "_law_truth" "_law_truth" s_law_truth f fd) (z_isinstance : mg "isinstance" = none) (z_bool : mg "bool" = none) : FnOk P w K mg base CX0 1 f fd ["_law_found", "_law_due"] spTruth := by
  refine F.ok sc_law_truth (fun vs H Q E h => ?_) (fun cdv A outer s H vs Q E hr h => ?_)
  · obtain ⟨b, rfl, _⟩ := h
    rfl
  · obtain ⟨b, rfl, q⟩ := h
    refine ⟨_, (pss_one (ps_ret (pe_and (pe_callB (call_isiK' (K := K)) (by rfl) z_isinstance (by decide +kernel) (pa_cons (pv 0) (pa_cons (pe_bltn (v := V.ty "bool") (u := Value.type "bool") (by rfl) z_bool (by decide +kernel) rfl) pa_nil))) (pe_one (pe_cmpR op_eq (pv 0) (pv 1) (nomark _)))))), ?_⟩
    walk_at "rd"
    exact isiT thg_bl (by decide) (iteP rfl (by rw [decide_eq_true trivial]; exact q))
theorem ok_bounded {f : Addr} {fd : FuncData} (F : Fun K "_law_bounded" "_law_bounded" s_law_bounded f fd) (z_isinstance : mg "isinstance" = none) (z_bool : mg "bool" = none) (D_law_draw : Dn P w K mg base CX0 1 "_law_draw" ["_law_state", "_law_many"] spDraw) (D_law_number : Dn P w K mg base CX0 1 "_law_number" ["_law_text"] spLNumber) (D_number_in : Dn P w K mg base CX0 2 "number_in" ["text", "low", "high"] (spNumIn K)) : FnOk P w K mg base CX0 3 f fd ["_law_state", "_law_text"] spBounded := by
  refine F.ok sc_law_bounded (fun vs H Q E h => ?_) (fun cdv A outer s H vs Q E hr h => ?_)
  · obtain ⟨t, l, rfl, _⟩ := h
    rfl
  · obtain ⟨t, l, rfl, d0, hl, q⟩ := h
    refine ⟨_, (pss_cons (ps_set (i := 2) sc_law_bounded.nd rfl (by first | exact Or.inl rfl | exact Or.inr rfl) (pe_cd D_law_number (hr.mono (by decide)) (by rfl) pass0 (pa_cons (pv 1) pa_nil)))
      (pss_cons (ps_set (i := 3) sc_law_bounded.nd rfl (by first | exact Or.inl rfl | exact Or.inr rfl) pe_int)
      (pss_cons (ps_if (pt_cmpR op_notN (pv 2) pe_non (nomark _)) (pss_one (ps_set (i := 3) sc_law_bounded.nd rfl (by first | exact Or.inl rfl | exact Or.inr rfl) (pv 2))) pss_nil)
      (pss_cons (ps_for PassesOwn.never rfl (pi_listK (pe_lst (pa_cons (pe_tup (pa_cons (pv 3) (pa_cons (pv 3) pa_nil))) (pa_cons (pe_tup (pa_cons (pe_op op_add (pv 3) pe_int) (pa_cons (pe_op op_add (pv 3) pe_int) pa_nil))) (pa_cons (pe_tup (pa_cons (pe_op op_sub pe_int pe_int) (pa_cons (pe_op op_sub (pv 3) pe_int) pa_nil))) (pa_cons (pe_tup (pa_cons pe_int (pa_cons (pe_op op_pow pe_int pe_int) pa_nil))) pa_nil))))) (K := K)) (pg_tup rfl (pgs_cons (pg_name (i := 4) sc_law_bounded.nd rfl (by first | exact Or.inl rfl | exact Or.inr rfl)) (pgs_cons (pg_name (i := 5) sc_law_bounded.nd rfl (by first | exact Or.inl rfl | exact Or.inr rfl)) pgs_nil))) (pss_cons (ps_set (i := 6) sc_law_bounded.nd rfl (by first | exact Or.inl rfl | exact Or.inr rfl) (pv 2))
      (pss_cons (ps_if (PW.pt (pw_or (pt_cmpR op_isN (pv 2) pe_non (nomark _)) (pw_or1 (pt_not (pt_chain op_le op_le (pv 4) (pv 2) (pv 5)))))) (pss_one (ps_set (i := 6) sc_law_bounded.nd rfl (by first | exact Or.inl rfl | exact Or.inr rfl) pe_non)) pss_nil)
      (pss_cons (ps_set (i := 7) sc_law_bounded.nd rfl (by first | exact Or.inl rfl | exact Or.inr rfl) (pe_cd D_number_in (hr.mono (by decide)) (by rfl) pass0 (pa_cons (pv 1) (pa_cons (pv 4) (pa_cons (pv 5) pa_nil)))))
      (pss_one (ps_if (PW.pt (pw_or (pt_cmpR op_ne (pv 7) (pv 6) (nomark _)) (pw_or (pt_cmpR op_ne (pe_cmpR op_isN (pv 7) pe_non (nomark _)) (pe_cmpR op_isN (pv 6) pe_non (nomark _)) (nomark _)) (pw_or1 (pt_val (pe_callB (call_isiK' (K := K)) (by rfl) z_isinstance (by decide +kernel) (pa_cons (pv 7) (pa_cons (pe_bltn (v := V.ty "bool") (u := Value.type "bool") (by rfl) z_bool (by decide +kernel) rfl) pa_nil)))))))) (pss_one (ps_ret pe_bl)) pss_nil))))))
      (pss_cons (ps_if (PW.pt (pw_or (pt_cmpR op_notN (pe_cd D_number_in (hr.mono (by decide)) (by rfl) pass0 (pa_cons (pv 1) (pa_cons (pe_op op_add (pv 3) pe_int) (pa_cons (pe_op op_sub (pv 3) pe_int) pa_nil)))) pe_non (nomark _)) (pw_or1 (pt_cmpR op_notN (pe_cd D_number_in (hr.mono (by decide)) (by rfl) pass0 (pa_cons (pv 1) (pa_cons (pv 3) (pa_cons (pe_op op_sub (pv 3) pe_int) pa_nil)))) pe_non (nomark _))))) (pss_one (ps_ret pe_bl)) pss_nil)
      (pss_cons (ps_set (i := 4) sc_law_bounded.nd rfl (by first | exact Or.inl rfl | exact Or.inr rfl) (pe_cd D_law_draw (hr.mono (by decide)) (by rfl) pass0 (pa_cons (pv 0) (pa_cons pe_int pa_nil))))
      (pss_cons (ps_set (i := 7) sc_law_bounded.nd rfl (by first | exact Or.inl rfl | exact Or.inr rfl) (pe_cd D_number_in (hr.mono (by decide)) (by rfl) pass0 (pa_cons (pv 1) (pa_cons (pv 4) (pa_cons (pe_op op_add (pv 4) (pe_cd D_law_draw (hr.mono (by decide)) (by rfl) pass0 (pa_cons (pv 0) (pa_cons pe_int pa_nil)))) pa_nil)))))
      (pss_one (ps_ret (pe_or (pe_cmpR op_isN (pv 7) pe_non (nomark _)) (pe_one (pe_and (pe_cmpR op_notN (pv 2) pe_non (nomark _)) (pe_one (pe_cmpR op_eq (pv 7) (pv 2) (nomark _))))))))))))))), ?_⟩
    walk_at "rd"
    refine ⟨l, rfl, hl, fun H1 s1 => ?_⟩
    have nv : ∀ lo hi, numV (.str (S l)) lo hi = withinV (numL l) lo hi := fun _ _ => rfl
    have num : ∀ {H2 : Hp} {R : VK} (lo hi : Int), R (withinV (numL l) lo hi) H2 → spNumIn K [.str (S l), .int lo, .int hi] H2 R E0 := fun lo hi r => ⟨_, _, lo, hi, rfl, .str _, fun z e => by cases e; rw [S_len]; exact hl, r⟩
    generalize numL l = o at num
    cases o with
    | some n =>
      refine iteP (fun h => nomatch h) ?_
      have numI : ∀ {H2 : Hp} {R : VK} {lo hi : Int}, lo ≤ (n : Int) ∧ (n : Int) ≤ hi → R (.int n) H2 → spNumIn K [V.str (S l), V.int lo, V.int hi] H2 R E0 := fun g r => num _ _ (by
        unfold withinV
        dsimp only
        rw [if_pos g]
        exact r)
      have numO : ∀ {H2 : Hp} {R : VK} {lo hi : Int}, ¬ (lo ≤ (n : Int) ∧ (n : Int) ≤ hi) → R .non H2 → spNumIn K [V.str (S l), V.int lo, V.int hi] H2 R E0 := fun g r => num _ _ (by
        unfold withinV
        dsimp only
        rw [if_neg g]
        exact r)
      refine ⟨by decide, New.intro fun p1 G1 n1 t1 g1 => ⟨n, rfl, n, rfl, by decide, New.intro fun p2 G2 n2 t2 g2 => ⟨n, rfl, by decide, New.intro fun p3 G3 n3 t3 g3 => ⟨⟨by decide, by decide, by decide⟩, by decide, New.intro fun p4 G4 n4 t4 g4 => ⟨by decide, New.intro fun p G n5 t5 g5 => ?_⟩⟩⟩⟩⟩
      have hh : ∀ (i : Nat) (x : V), [V.ref p1, V.ref p2, V.ref p3, V.ref p4][i]? = some x → ∃ (r : Addr) (lo hi : Int), x = V.ref r ∧ SqT K G r [.int lo, .int hi] := by
        intro i x hx
        have hm := List.mem_of_getElem? hx
        simp only [List.mem_cons, List.not_mem_nil, or_false] at hm
        rcases hm with rfl | rfl | rfl | rfl
        · exact ⟨_, _, _, rfl, seqT_of (t5 _ _ (t4 _ _ (t3 _ _ (t2 _ _ g1))))⟩
        · exact ⟨_, _, _, rfl, seqT_of (t5 _ _ (t4 _ _ (t3 _ _ g2)))⟩
        · exact ⟨_, _, _, rfl, seqT_of (t5 _ _ (t4 _ _ g3))⟩
        · exact ⟨_, _, _, rfl, seqT_of (t5 _ _ g4)⟩
      have sG : Same H G := s1.trans (t1.trans (t2.trans (t3.trans (t4.trans t5))))
      refine ⟨⟨_, seq_of g5⟩, Loop.list (xs := [V.ref p1, V.ref p2, V.ref p3, V.ref p4]) (fun i σ H1 => ∃ y4 y5 y6 y7 : Option V, H1 = G ∧ σ = [some (.ref t), some (.str (S l)), some (.int n), some (.int n), y4, y5, y6, y7]) ⟨_, _, _, _, rfl, rfl⟩ ?_ ?_ ?_⟩
      · rintro i σ H1 _ ⟨_, _, _, _, rfl, rfl⟩
        exact seq_of g5
      · rintro i x σ H1 hx ⟨y4, y5, y6, y7, rfl, rfl⟩
        obtain ⟨r, lo, hi, rfl, hr⟩ := hh i x hx
        walk_at "rd"
        exact ⟨_, hr, rfl, _, _, rfl, _, _, rfl, rfl, lo, rfl, ite2 (fun g1 => ⟨hi, rfl, ite2
          (fun g2 => numO (fun h => g2 h.2) ⟨rfl, iteN (fun h => h rfl) (iteN (fun h => h rfl) (isiT thg_non (by decide) (iteN (by decide) rfl)))⟩)
          (fun g2 => numI ⟨g1, Classical.not_not.mp g2⟩ ⟨scal_ii, iteN (fun h => h rfl) (iteN (fun h => h rfl) (isiT thg_int (by decide) (iteN (by decide) rfl)))⟩)⟩)
          (fun g1 => numO (fun h => g1 h.1) ⟨rfl, iteN (fun h => h rfl) (iteN (fun h => h rfl) (isiT thg_non (by decide) (iteN (by decide) rfl)))⟩)⟩
      · rintro σ H1 ⟨y4, y5, y6, y7, rfl, rfl⟩
        walk_at "rd"
        refine numO (by omega) (iteN (fun h => h rfl) (numO (by omega) (iteN (fun h => h rfl) ⟨t, 1000, rfl, d0.keep sG, by decide, by decide, fun v H2 v0 v1 o2 d2 => ⟨t, 400, rfl, d2, by decide, by decide, fun v' H3 v0' v1' o3 d3 => ⟨v, rfl, v', rfl, ?_⟩⟩⟩)))
        have fin := q H3 (((Off.of sG).trans o2).trans o3) d3
        by_cases g : v ≤ (n : Int) ∧ (n : Int) ≤ v + v'
        · refine numI g (iteN (fun h => nomatch h) (iteP (fun h => h) ⟨scal_ii, ?_⟩))
          rw [decide_eq_true rfl]
          exact fin
        · exact numO g (iteP rfl fin)
    | none =>
      refine iteN (fun h => h rfl) ?_
      refine ⟨by decide, New.intro fun p1 G1 n1 t1 g1 => ⟨by decide, New.intro fun p2 G2 n2 t2 g2 => ⟨by decide, New.intro fun p3 G3 n3 t3 g3 => ⟨⟨by decide, by decide, by decide⟩, by decide, New.intro fun p4 G4 n4 t4 g4 => ⟨by decide, New.intro fun p G n5 t5 g5 => ?_⟩⟩⟩⟩⟩
      have hh : ∀ (i : Nat) (x : V), [V.ref p1, V.ref p2, V.ref p3, V.ref p4][i]? = some x → ∃ (r : Addr) (lo hi : Int), x = V.ref r ∧ SqT K G r [.int lo, .int hi] := by
        intro i x hx
        have hm := List.mem_of_getElem? hx
        simp only [List.mem_cons, List.not_mem_nil, or_false] at hm
        rcases hm with rfl | rfl | rfl | rfl
        · exact ⟨_, _, _, rfl, seqT_of (t5 _ _ (t4 _ _ (t3 _ _ (t2 _ _ g1))))⟩
        · exact ⟨_, _, _, rfl, seqT_of (t5 _ _ (t4 _ _ (t3 _ _ g2)))⟩
        · exact ⟨_, _, _, rfl, seqT_of (t5 _ _ (t4 _ _ g3))⟩
        · exact ⟨_, _, _, rfl, seqT_of (t5 _ _ g4)⟩
      have sG : Same H G := s1.trans (t1.trans (t2.trans (t3.trans (t4.trans t5))))
      refine ⟨⟨_, seq_of g5⟩, Loop.list (xs := [V.ref p1, V.ref p2, V.ref p3, V.ref p4]) (fun i σ H1 => ∃ y4 y5 y6 y7 : Option V, H1 = G ∧ σ = [some (.ref t), some (.str (S l)), some .non, some (.int 500), y4, y5, y6, y7]) ⟨_, _, _, _, rfl, rfl⟩ ?_ ?_ ?_⟩
      · rintro i σ H1 _ ⟨_, _, _, _, rfl, rfl⟩
        exact seq_of g5
      · rintro i x σ H1 hx ⟨y4, y5, y6, y7, rfl, rfl⟩
        obtain ⟨r, lo, hi, rfl, hr⟩ := hh i x hx
        walk_at "rd"
        exact ⟨_, hr, rfl, _, _, rfl, _, _, rfl, rfl, num lo hi ⟨rfl, iteN (fun h => h rfl) (iteN (fun h => h rfl) (isiT thg_non (by decide) (iteN (by decide) rfl)))⟩⟩
      · rintro σ H1 ⟨y4, y5, y6, y7, rfl, rfl⟩
        walk_at "rd"
        refine num _ _ (iteN (fun h => h rfl) (num _ _ (iteN (fun h => h rfl) ⟨t, 1000, rfl, d0.keep sG, by decide, by decide, fun v H2 v0 v1 o2 d2 => ⟨t, 400, rfl, d2, by decide, by decide, fun v' H3 v0' v1' o3 d3 => ⟨v, rfl, v', rfl, num _ _ (iteP rfl ?_)⟩⟩⟩)))
        exact q H3 (((Off.of sG).trans o2).trans o3) d3
theorem ok_law {f : Addr} {fd : FuncData} (F : Fun K "law" "law" s_law f fd) (z_isinstance : mg "isinstance" = none) (z_list : mg "list" = none) (z_len : mg "len" = none) (z_range : mg "range" = none) (z_max : mg "max" = none) (z_min : mg "min" = none) (D_law_own : Dn P w K mg base CX0 1 "_law_own" [] spOwn) (D_law_begun : Dn P w K mg base CX0 1 "_law_begun" ["_law_cell_here"] spBegun) (D_law_cell : Dn P w K mg base CX0 1 "_law_cell" ["_law_script", "_law_k"] (spCell K)) (D_law_word : Dn P w K mg base CX0 2 "_law_word" ["_law_state"] spWord) (D_law_figures : Dn P w K mg base CX0 2 "_law_figures" ["_law_state"] spWord) (D_law_truth : Dn P w K mg base CX0 1 "_law_truth" ["_law_found", "_law_due"] spTruth) (D_is_name : Dn P w K mg base CX0 2 "is_name" ["thing"] (spIsName K)) (D_is_whole : Dn P w K mg base CX0 1 "is_whole" ["thing"] (spIsWhole K)) (D_law_is_name : Dn P w K mg base CX0 2 "_law_is_name" ["_law_word_here"] spLIsName) (D_law_bounded : Dn P w K mg base CX0 3 "_law_bounded" ["_law_state", "_law_text"] spBounded) (D_law_draw : Dn P w K mg base CX0 1 "_law_draw" ["_law_state", "_law_many"] spDraw) (D_number_in : Dn P w K mg base CX0 2 "number_in" ["text", "low", "high"] (spNumIn K)) (D_own_words : Dn P w K mg base CX0 1 "own_words" [] spOwn) : FnOk P w K mg base CX0 4 f fd ["_law_script"] (spLaw K) := by
  refine F.ok sc_law (fun vs H Q E h => ?_) (fun cdv A outer s H vs Q E hr h => ?_)
  · obtain ⟨a, ns, rfl, _⟩ := h
    rfl
  · obtain ⟨a, ns, rfl, hS, hl, q⟩ := h
    refine ⟨_, (pss_cons (ps_set (i := 1) sc_law.nd rfl (by first | exact Or.inl rfl | exact Or.inr rfl) (pe_cd0 D_law_own (hr.mono (by decide)) (by rfl) pass0))
      (pss_cons (ps_for PassesOwn.never rfl (pi_rangeL1 (by rfl) z_range (pa_cons (pe_callB (call_max2R rfl) (by rfl) z_max (by decide +kernel) (pa_cons pe_int (pa_cons (pe_callB (call_min2R rfl) (by rfl) z_min (by decide +kernel) (pa_cons pe_int (pa_cons (pe_callB (call_lenR (K := K)) (by rfl) z_len (by decide +kernel) (pa_cons (pv 0) pa_nil)) pa_nil))) pa_nil))) pa_nil)) (pg_name (i := 2) sc_law.nd rfl (by first | exact Or.inl rfl | exact Or.inr rfl)) (pss_cons (ps_set (i := 3) sc_law.nd rfl (by first | exact Or.inl rfl | exact Or.inr rfl) (pe_cd D_law_begun (hr.mono (by decide)) (by rfl) pass0 (pa_cons (pe_cd D_law_cell (hr.mono (by decide)) (by rfl) pass0 (pa_cons (pv 0) (pa_cons (pv 2) pa_nil))) pa_nil)))
      (pss_cons (ps_set (i := 4) sc_law.nd rfl (by first | exact Or.inl rfl | exact Or.inr rfl) (pe_cd D_law_word (hr.mono (by decide)) (by rfl) pass0 (pa_cons (pv 3) pa_nil)))
      (pss_cons (ps_set (i := 5) sc_law.nd rfl (by first | exact Or.inl rfl | exact Or.inr rfl) (pe_cd D_law_figures (hr.mono (by decide)) (by rfl) pass0 (pa_cons (pv 3) pa_nil)))
      (pss_cons (ps_if (PW.pt (pw_or (pt_not (pt_val (pe_cd D_law_truth (hr.mono (by decide)) (by rfl) pass0 (pa_cons (pe_cd D_is_name (hr.mono (by decide)) (by rfl) pass0 (pa_cons (pv 4) pa_nil)) (pa_cons (pe_cd D_law_is_name (hr.mono (by decide)) (by rfl) pass0 (pa_cons (pv 4) pa_nil)) pa_nil))))) (pw_or1 (pt_not (pt_val (pe_cd D_law_truth (hr.mono (by decide)) (by rfl) pass0 (pa_cons (pe_cd D_is_name (hr.mono (by decide)) (by rfl) pass0 (pa_cons (pv 5) pa_nil)) (pa_cons (pe_cd D_law_is_name (hr.mono (by decide)) (by rfl) pass0 (pa_cons (pv 5) pa_nil)) pa_nil)))))))) (pss_one (ps_ret pe_bl)) pss_nil)
      (pss_cons (ps_if (PW.pt (pw_or (pt_not (pt_val (pe_cd D_law_bounded (hr.mono (by decide)) (by rfl) pass0 (pa_cons (pv 3) (pa_cons (pv 5) pa_nil))))) (pw_or1 (pt_not (pt_val (pe_cd D_law_bounded (hr.mono (by decide)) (by rfl) pass0 (pa_cons (pv 3) (pa_cons (pv 4) pa_nil)))))))) (pss_one (ps_ret pe_bl)) pss_nil)
      (pss_cons (ps_set (i := 6) sc_law.nd rfl (by first | exact Or.inl rfl | exact Or.inr rfl) (pe_op op_sub (pe_cd D_law_draw (hr.mono (by decide)) (by rfl) pass0 (pa_cons (pv 3) (pa_cons pe_int pa_nil))) pe_int))
      (pss_cons (ps_if (PW.pt (pw_or (pt_not (pt_val (pe_cd D_law_truth (hr.mono (by decide)) (by rfl) pass0 (pa_cons (pe_cd D_is_whole (hr.mono (by decide)) (by rfl) pass0 (pa_cons (pv 6) pa_nil)) (pa_cons pe_bl pa_nil))))) (pw_or1 (pt_not (pt_val (pe_cd D_law_truth (hr.mono (by decide)) (by rfl) pass0 (pa_cons (pe_cd D_is_name (hr.mono (by decide)) (by rfl) pass0 (pa_cons (pv 6) pa_nil)) (pa_cons pe_bl pa_nil)))))))) (pss_one (ps_ret pe_bl)) pss_nil)
      (pss_cons (ps_if (PW.pt (pw_or (pt_cmpR op_notN (pe_cd D_number_in (hr.mono (by decide)) (by rfl) pass0 (pa_cons (pv 6) (pa_cons pe_int (pa_cons (pe_op op_pow pe_int pe_int) pa_nil)))) pe_non (nomark _)) (pw_or1 (pt_not (pt_val (pe_cd D_law_truth (hr.mono (by decide)) (by rfl) pass0 (pa_cons (pe_cd D_is_whole (hr.mono (by decide)) (by rfl) pass0 (pa_cons (pv 5) pa_nil)) (pa_cons pe_bl pa_nil)))))))) (pss_one (ps_ret pe_bl)) pss_nil)
      (pss_cons (ps_set (i := 7) sc_law.nd rfl (by first | exact Or.inl rfl | exact Or.inr rfl) (pe_ix (ix_listK (K := K)) (pe_lst (pa_cons pe_non (pa_cons pe_bl (pa_cons pe_bl (pa_cons (pe_lst (pa_cons pe_str pa_nil)) (pa_cons (pe_tup (pa_cons pe_str pa_nil)) (pa_cons pe_dnewK (pa_cons (pe_disp (pps_cons pe_str pe_int pps_nil) rfl rfl (by intro h; cases h) (by decide)) (pa_cons (pe_lst pa_nil) (pa_cons (pe_lst (pa_cons pe_str pa_nil)) (pa_cons pe_str (pa_cons (pe_tup (pa_cons pe_int pa_nil)) pa_nil)))))))))))) (pe_cd D_law_draw (hr.mono (by decide)) (by rfl) pass0 (pa_cons (pv 3) (pa_cons pe_int pa_nil))) (fun _ _ => rfl)))
      (pss_cons (ps_if (PW.pt (pw_or (pt_not (pt_val (pe_cd D_law_truth (hr.mono (by decide)) (by rfl) pass0 (pa_cons (pe_cd D_is_whole (hr.mono (by decide)) (by rfl) pass0 (pa_cons (pv 7) pa_nil)) (pa_cons pe_bl pa_nil))))) (pw_or1 (pt_not (pt_val (pe_cd D_law_truth (hr.mono (by decide)) (by rfl) pass0 (pa_cons (pe_cd D_is_name (hr.mono (by decide)) (by rfl) pass0 (pa_cons (pv 7) pa_nil)) (pa_cons pe_bl pa_nil)))))))) (pss_one (ps_ret pe_bl)) pss_nil)
      (pss_cons (ps_set (i := 8) sc_law.nd rfl (by first | exact Or.inl rfl | exact Or.inr rfl) (pe_cd0 D_own_words (hr.mono (by decide)) (by rfl) pass0))
      (pss_cons (ps_if (PW.pt (pw_or (pt_cmpR op_notN (pe_cd D_number_in (hr.mono (by decide)) (by rfl) pass0 (pa_cons (pv 7) (pa_cons pe_int (pa_cons pe_int pa_nil)))) pe_non (nomark _)) (pw_or (pt_not (pt_val (pe_callB (call_isiK' (K := K)) (by rfl) z_isinstance (by decide +kernel) (pa_cons (pv 8) (pa_cons (pe_bltn (v := V.ty "list") (u := Value.type "list") (by rfl) z_list (by decide +kernel) rfl) pa_nil))))) (pw_or1 (pt_cmpR (op_neDK hr.units (K := K)) (pv 8) (pv 1) (nomark _)))))) (pss_one (ps_ret pe_bl)) pss_nil)
      (pss_one (ps_expr (pe_bm0K (K := K) PySem.F.plainAttrs_list PySem.F.slot_list_clear PySem.F.type_list_clear mt_clear (pv 8)))))))))))))))))
      (pss_one (ps_ret (pe_and (pe_cmpR (op_eqDK hr.units (K := K)) (pe_cd0 D_own_words (hr.mono (by decide)) (by rfl) pass0) (pv 1) (nomark _)) (pe_and (pe_cmpR op_eq (pe_cd D_number_in (hr.mono (by decide)) (by rfl) pass0 (pa_cons pe_str (pa_cons pe_int (pa_cons pe_int pa_nil)))) pe_int (nomark _)) (pe_one (pe_cmpR op_eq (pe_cd D_number_in (hr.mono (by decide)) (by rfl) pass0 (pa_cons pe_str (pa_cons pe_int (pa_cons pe_int pa_nil)))) pe_int (nomark _))))))))), ?_⟩
    walk_at "rd"
    refine ⟨rfl, fun pw G nw sw hw => ⟨_, .inl (sw.seq hS), ?_⟩⟩
    refine Loop.range (fun i σ H1 => ∃ x2 x3 x4 x5 x6 x7 x8 : Option V, σ = [some (.ref a), some (.ref pw), x2, x3, x4, x5, x6, x7, x8] ∧ Same G H1) ⟨_, _, _, _, _, _, _, rfl, Same.refl G⟩ ?_ ?_
    · rintro i σ HA hi ⟨x2, x3, x4, x5, x6, x7, x8, rfl, sA⟩
      walk_at "rd"
      have sc : ∀ {H1 : Hp}, Same G H1 → SqL K H1 a (ns.map V.int) := fun h => (sw.trans h).seq hS
      refine ⟨a, ns, _, rfl, sc sA, by omega, by split at hi <;> split at hi <;> omega, hl, fun z => ⟨z, rfl, fun t H1 nt s1 d1 => ?_⟩⟩
      have nG : G t = none := sA.free nt
      refine ⟨t, rfl, d1, fun l1 H2 z1 o2 d2 => ⟨t, rfl, d2, fun l2 H3 z2 o3 d3 => ?_⟩⟩
      have s3 : Same G H3 := Same.off (Same.off (sA.trans s1) nG o2) nG o3
      have st : ∀ {x : V} {H1 : Hp} {R : VK}, (∀ z, x = .str z → z.length ≤ 1000) → (∃ T, Th K H1 x T) → R (.bl (nameV x)) H1 → spIsName K [x] H1 R E0 := fun hz t r => t.elim fun T t => ⟨_, T, rfl, t, hz, r⟩
      have zs : ∀ {l : List Nat}, l.length ≤ 20 → ∀ z, V.str (S l) = .str z → z.length ≤ 1000 := fun h z e => by
        cases e
        rw [S_len]
        omega
      refine st (zs z1) ⟨_, .str _⟩ ⟨l1, rfl, by omega, fun H4 s4 => ⟨_, rfl, true, rfl, iteN (by decide) ?_⟩⟩
      refine st (zs z2) ⟨_, .str _⟩ ⟨l2, rfl, by omega, fun H5 s5 => ⟨_, rfl, true, rfl, iteN (by decide) ?_⟩⟩
      refine ⟨t, l2, rfl, (d3.keep s4).keep s5, by omega, fun H6 o6 d6 => ⟨true, rfl, iteN (by decide) ?_⟩⟩
      refine ⟨t, l1, rfl, d6, by omega, fun H7 o7 d7 => ⟨true, rfl, iteN (by decide) ?_⟩⟩
      refine ⟨t, _, rfl, d7, by decide, by decide, fun v H8 v0 v1 o8 d8 => ⟨v, rfl, ?_⟩⟩
      have s8 : Same G H8 := Same.off (Same.off (Same.off (s3.trans (s4.trans s5)) nG o6) nG o7) nG o8
      refine ⟨_, _, rfl, thg_int, true, rfl, true, rfl, iteN (by decide) ?_⟩
      refine st (fun z e => (nomatch e)) ⟨_, .int _⟩ ⟨false, rfl, true, rfl, iteN (by decide) ?_⟩
      refine ⟨⟨by decide, by decide, by decide⟩, _, _, _, _, rfl, .int _, (fun z e => (nomatch e)), iteN (fun h => h rfl) ?_⟩
      refine ⟨_, _, rfl, thg_str, false, rfl, true, rfl, iteN (by decide) ?_⟩
      refine ⟨by decide, New.intro fun u1 G1 n1 t1 g1 => ⟨by decide, New.intro fun u2 G2 n2 t2 g2 => New.intro fun u3 G3 n3 t3 g3 => fun u4 n4 => ⟨upd_same, [(.inr "a", .int 1)], rfl, by decide, by decide, ?_⟩⟩⟩
      generalize hm : HO.dK (mergeK [] [(Sum.inr "a", V.int 1)]) = om
      have t4 : Same G3 (upd (upd G3 u4 (.dK [])) u4 om) := Same.mut (same_new n4) n4
      have g4 : upd (upd G3 u4 (.dK [])) u4 om u4 = some (.dK (mergeK [] [(.inr "a", .int 1)])) := by rw [upd_same, hm]
      generalize upd (upd G3 u4 (.dK [])) u4 om = G4 at t4 g4
      refine New.intro fun u5 G5 n5 t5 g5 => ⟨by decide, New.intro fun u6 G6 n6 t6 g6 => ⟨by decide, New.intro fun u7 G7 n7 t7 g7 => ⟨by decide, New.intro fun u8 G8 n8 t8 g8 => ?_⟩⟩⟩
      have s9 : Same H8 G8 := t1.trans (t2.trans (t3.trans (t4.trans (t5.trans (t6.trans (t7.trans t8))))))
      refine ⟨t, _, rfl, d8.keep s9, by decide, by decide, fun k G9 k0 k1 o9 d9 => ?_⟩
      have s10 : Same G G9 := Same.off (s8.trans s9) nG o9
      have ne : ∀ {u : Addr} {Hu : Hp}, Hu u = none → Same H8 Hu → u ≠ t := fun hu su => d8.apart (su.free hu)
      have T : ∀ x ∈ [V.non, V.bl true, V.bl false, V.ref u1, V.ref u2, V.ref u3, V.ref u4, V.ref u5, V.ref u6, V.str (Str.ofString ""), V.ref u7], (∃ T, Th K G9 x T) ∧ (∀ z, x = .str z → z.length ≤ 1000) ∧ isWh x = false ∧ nameV x = false ∧ numV x 0 9 = .non := by
        intro x hx
        have ref : ∀ (u : Addr), (∃ T, Th K G9 (.ref u) T) → (∃ T, Th K G9 (.ref u) T) ∧ (∀ z, V.ref u = .str z → z.length ≤ 1000) ∧ isWh (.ref u) = false ∧ nameV (.ref u) = false ∧ numV (.ref u) 0 9 = .non := fun u h => ⟨h, fun z e => (nomatch e), rfl, rfl, rfl⟩
        simp only [List.mem_cons, List.not_mem_nil, or_false] at hx
        rcases hx with rfl | rfl | rfl | rfl | rfl | rfl | rfl | rfl | rfl | rfl | rfl
        · exact ⟨⟨_, .non⟩, fun z e => (nomatch e), rfl, rfl, rfl⟩
        · exact ⟨⟨_, .bl _⟩, fun z e => (nomatch e), rfl, rfl, rfl⟩
        · exact ⟨⟨_, .bl _⟩, fun z e => (nomatch e), rfl, rfl, rfl⟩
        · exact ref _ ⟨_, .lst (seq_of (o9 _ _ (ne n1 (Same.refl _)) (t8 _ _ (t7 _ _ (t6 _ _ (t5 _ _ (t4 _ _ (t3 _ _ (t2 _ _ g1)))))))))⟩
        · exact ref _ ⟨_, .tup (seqT_of (o9 _ _ (ne n2 t1) (t8 _ _ (t7 _ _ (t6 _ _ (t5 _ _ (t4 _ _ (t3 _ _ g2))))))))⟩
        · exact ref _ ⟨_, .dK (o9 _ _ (ne n3 (t1.trans t2)) (t8 _ _ (t7 _ _ (t6 _ _ (t5 _ _ (t4 _ _ g3))))))⟩
        · exact ref _ ⟨_, .dK (o9 _ _ (ne n4 (t1.trans (t2.trans t3))) (t8 _ _ (t7 _ _ (t6 _ _ (t5 _ _ g4)))))⟩
        · exact ref _ ⟨_, .lst (seq_of (o9 _ _ (ne n5 (t1.trans (t2.trans (t3.trans t4)))) (t8 _ _ (t7 _ _ (t6 _ _ g5)))))⟩
        · exact ref _ ⟨_, .lst (seq_of (o9 _ _ (ne n6 (t1.trans (t2.trans (t3.trans (t4.trans t5))))) (t8 _ _ (t7 _ _ g6))))⟩
        · exact ⟨⟨_, .str _⟩, fun z e => by cases e; rw [e_no, S_len]; decide, rfl, rfl, rfl⟩
        · exact ref _ ⟨_, .tup (seqT_of (o9 _ _ (ne n7 (t1.trans (t2.trans (t3.trans (t4.trans (t5.trans t6)))))) (t8 _ _ g7)))⟩
      obtain ⟨x, hx, ax⟩ : ∃ x, x ∈ [V.non, V.bl true, V.bl false, V.ref u1, V.ref u2, V.ref u3, V.ref u4, V.ref u5, V.ref u6, V.str (Str.ofString ""), V.ref u7] ∧ atI [V.non, V.bl true, V.bl false, V.ref u1, V.ref u2, V.ref u3, V.ref u4, V.ref u5, V.ref u6, V.str (Str.ofString ""), V.ref u7] k = some x := by
        have hk : k.toNat < [V.non, V.bl true, V.bl false, V.ref u1, V.ref u2, V.ref u3, V.ref u4, V.ref u5, V.ref u6, V.str (Str.ofString ""), V.ref u7].length := by
          show k.toNat < 11
          omega
        exact ⟨_, List.getElem_mem hk, at_of (j := k.toNat) (by omega) (List.getElem?_eq_getElem hk)⟩
      obtain ⟨tx, zx, wx, nx, mx⟩ := T x hx
      have s8' : u8 ≠ t := ne n8 (t1.trans (t2.trans (t3.trans (t4.trans (t5.trans (t6.trans t7))))))
      refine ⟨_, k, rfl, seq_of (o9 _ _ s8' g8), x, ax, ?_⟩
      obtain ⟨T0, tx0⟩ := tx
      refine ⟨x, T0, rfl, tx0.thg, false, by rw [wx], true, rfl, iteN (by decide) ?_⟩
      refine ⟨x, T0, rfl, tx0, zx, false, by rw [nx], true, rfl, iteN (by decide) ?_⟩
      refine ⟨rfl, fun pt H9 nt9 sT hT => ⟨x, T0, _, _, rfl, tx0.same sT, zx, ?_⟩⟩
      rw [mx]
      refine iteN (fun h => h rfl) (isiT (thg_lst hT) (by decide) (iteN (by decide) ?_))
      refine ne_lst (seq_of hT) (seq_of (sT _ _ (s10 _ _ hw))) (by decide +kernel) ⟨false, rfl, iteN (by decide) ⟨tyv_list (seq_of hT), pt, rfl, ⟨_, hT⟩, Upd.intro fun HZ oz hz => ?_⟩⟩
      exact Same.off (s10.trans sT) (s10.free nt9) oz
    · rintro σ HA ⟨x2, x3, x4, x5, x6, x7, x8, rfl, sA⟩
      walk_at "rd"
      refine ⟨rfl, fun pq HB nq sq hq => ?_⟩
      refine eq_lst (seq_of hq) (seq_of (sq _ _ (sA _ _ hw))) (by decide +kernel) ⟨true, rfl, iteP rfl ?_⟩
      have e0 : numV (.str (Str.ofString "0")) 0 0 = .int 0 := by
        rw [e_0]
        rfl
      have e7 : numV (.str (Str.ofString "7")) 7 7 = .int 7 := by
        rw [show Str.ofString "7" = S [55] by decide +kernel]
        rfl
      refine ⟨_, _, 0, 0, rfl, .str _, fun z e => by cases e; rw [e_0, S_len]; decide, ?_⟩
      rw [e0]
      refine ⟨rfl, iteP rfl ⟨_, _, 7, 7, rfl, .str _, fun z e => by cases e; decide +kernel, ?_⟩⟩
      rw [e7]
      exact ⟨rfl, by rw [decide_eq_true rfl]; exact q _⟩
end
theorem all_mk {l : PySem.W.OpenLaw} {w : World} {K : PySem.W.Frag} {h : Heap} {mg : Str → Option Value} {fa f_law_cell f_law_begun f_law_draw f_is_whole f_law_whole f_are_signs f_own_words f_is_name f_number_in f_law_own f_law_word f_law_is_name f_law_figures f_law_number f_law_truth f_law_bounded f_law : Addr} (X : K.In h) (G : h.Ns mainGlobals mg) (hfa : mg "law" = some (.ref fa))
    {od_law_cell an_law_cell : Option Addr} {sl_law_cell : Array (Option Value)} {oc_law_cell kV_law_cell dc_law_cell pm_law_cell cd_law_cell ct_law_cell : Value}
    {od_law_begun an_law_begun : Option Addr} {sl_law_begun : Array (Option Value)} {oc_law_begun kV_law_begun dc_law_begun pm_law_begun cd_law_begun ct_law_begun : Value}
    {od_law_draw an_law_draw : Option Addr} {sl_law_draw : Array (Option Value)} {oc_law_draw kV_law_draw dc_law_draw pm_law_draw cd_law_draw ct_law_draw : Value}
    {od_is_whole an_is_whole : Option Addr} {sl_is_whole : Array (Option Value)} {oc_is_whole kV_is_whole dc_is_whole pm_is_whole cd_is_whole ct_is_whole : Value}
    {od_law_whole an_law_whole : Option Addr} {sl_law_whole : Array (Option Value)} {oc_law_whole kV_law_whole dc_law_whole pm_law_whole cd_law_whole ct_law_whole : Value}
    {od_are_signs an_are_signs : Option Addr} {sl_are_signs : Array (Option Value)} {oc_are_signs kV_are_signs dc_are_signs pm_are_signs cd_are_signs ct_are_signs : Value}
    {od_own_words an_own_words : Option Addr} {sl_own_words : Array (Option Value)} {oc_own_words kV_own_words dc_own_words pm_own_words cd_own_words ct_own_words : Value}
    {od_is_name an_is_name : Option Addr} {sl_is_name : Array (Option Value)} {oc_is_name kV_is_name dc_is_name pm_is_name cd_is_name ct_is_name : Value}
    {od_number_in an_number_in : Option Addr} {sl_number_in : Array (Option Value)} {oc_number_in kV_number_in dc_number_in pm_number_in cd_number_in ct_number_in : Value}
    {od_law_own an_law_own : Option Addr} {sl_law_own : Array (Option Value)} {oc_law_own kV_law_own dc_law_own pm_law_own cd_law_own ct_law_own : Value}
    {od_law_word an_law_word : Option Addr} {sl_law_word : Array (Option Value)} {oc_law_word kV_law_word dc_law_word pm_law_word cd_law_word ct_law_word : Value}
    {od_law_is_name an_law_is_name : Option Addr} {sl_law_is_name : Array (Option Value)} {oc_law_is_name kV_law_is_name dc_law_is_name pm_law_is_name cd_law_is_name ct_law_is_name : Value}
    {od_law_figures an_law_figures : Option Addr} {sl_law_figures : Array (Option Value)} {oc_law_figures kV_law_figures dc_law_figures pm_law_figures cd_law_figures ct_law_figures : Value}
    {od_law_number an_law_number : Option Addr} {sl_law_number : Array (Option Value)} {oc_law_number kV_law_number dc_law_number pm_law_number cd_law_number ct_law_number : Value}
    {od_law_truth an_law_truth : Option Addr} {sl_law_truth : Array (Option Value)} {oc_law_truth kV_law_truth dc_law_truth pm_law_truth cd_law_truth ct_law_truth : Value}
    {od_law_bounded an_law_bounded : Option Addr} {sl_law_bounded : Array (Option Value)} {oc_law_bounded kV_law_bounded dc_law_bounded pm_law_bounded cd_law_bounded ct_law_bounded : Value}
    {od_law an_law : Option Addr} {sl_law : Array (Option Value)} {oc_law kV_law dc_law pm_law cd_law ct_law : Value}
    (a_law_cell : PySem.W.nsIn K mainGlobals "_law_cell" = some (some (.ref f_law_cell)))
    (l_law_cell : K.lookup f_law_cell = some ⟨oc_law_cell, od_law_cell, .func (PySem.W.fnOf "_law_cell" "_law_cell" (defArgs s_law_cell) (defBody s_law_cell) (defScope s_law_cell) .none kV_law_cell dc_law_cell pm_law_cell an_law_cell cd_law_cell ct_law_cell), sl_law_cell⟩)
    (c_law_cell : PySem.W.codeIn K cd_law_cell "_law_cell" = true)
    (k_law_cell : PySem.W.keepIn K (.ref f_law_cell) = true)
    (a_law_begun : PySem.W.nsIn K mainGlobals "_law_begun" = some (some (.ref f_law_begun)))
    (l_law_begun : K.lookup f_law_begun = some ⟨oc_law_begun, od_law_begun, .func (PySem.W.fnOf "_law_begun" "_law_begun" (defArgs s_law_begun) (defBody s_law_begun) (defScope s_law_begun) .none kV_law_begun dc_law_begun pm_law_begun an_law_begun cd_law_begun ct_law_begun), sl_law_begun⟩)
    (c_law_begun : PySem.W.codeIn K cd_law_begun "_law_begun" = true)
    (k_law_begun : PySem.W.keepIn K (.ref f_law_begun) = true)
    (a_law_draw : PySem.W.nsIn K mainGlobals "_law_draw" = some (some (.ref f_law_draw)))
    (l_law_draw : K.lookup f_law_draw = some ⟨oc_law_draw, od_law_draw, .func (PySem.W.fnOf "_law_draw" "_law_draw" (defArgs s_law_draw) (defBody s_law_draw) (defScope s_law_draw) .none kV_law_draw dc_law_draw pm_law_draw an_law_draw cd_law_draw ct_law_draw), sl_law_draw⟩)
    (c_law_draw : PySem.W.codeIn K cd_law_draw "_law_draw" = true)
    (k_law_draw : PySem.W.keepIn K (.ref f_law_draw) = true)
    (a_is_whole : PySem.W.nsIn K mainGlobals "is_whole" = some (some (.ref f_is_whole)))
    (l_is_whole : K.lookup f_is_whole = some ⟨oc_is_whole, od_is_whole, .func (PySem.W.fnOf "is_whole" "is_whole" (defArgs s_is_whole) (defBody s_is_whole) (defScope s_is_whole) .none kV_is_whole dc_is_whole pm_is_whole an_is_whole cd_is_whole ct_is_whole), sl_is_whole⟩)
    (c_is_whole : PySem.W.codeIn K cd_is_whole "is_whole" = true)
    (k_is_whole : PySem.W.keepIn K (.ref f_is_whole) = true)
    (a_law_whole : PySem.W.nsIn K mainGlobals "_law_whole" = some (some (.ref f_law_whole)))
    (l_law_whole : K.lookup f_law_whole = some ⟨oc_law_whole, od_law_whole, .func (PySem.W.fnOf "_law_whole" "_law_whole" (defArgs s_law_whole) (defBody s_law_whole) (defScope s_law_whole) .none kV_law_whole dc_law_whole pm_law_whole an_law_whole cd_law_whole ct_law_whole), sl_law_whole⟩)
    (c_law_whole : PySem.W.codeIn K cd_law_whole "_law_whole" = true)
    (k_law_whole : PySem.W.keepIn K (.ref f_law_whole) = true)
    (a_are_signs : PySem.W.nsIn K mainGlobals "are_signs" = some (some (.ref f_are_signs)))
    (l_are_signs : K.lookup f_are_signs = some ⟨oc_are_signs, od_are_signs, .func (PySem.W.fnOf "are_signs" "are_signs" (defArgs s_are_signs) (defBody s_are_signs) (defScope s_are_signs) .none kV_are_signs dc_are_signs pm_are_signs an_are_signs cd_are_signs ct_are_signs), sl_are_signs⟩)
    (c_are_signs : PySem.W.codeIn K cd_are_signs "are_signs" = true)
    (k_are_signs : PySem.W.keepIn K (.ref f_are_signs) = true)
    (a_own_words : PySem.W.nsIn K mainGlobals "own_words" = some (some (.ref f_own_words)))
    (l_own_words : K.lookup f_own_words = some ⟨oc_own_words, od_own_words, .func (PySem.W.fnOf "own_words" "own_words" (defArgs s_own_words) (defBody s_own_words) (defScope s_own_words) .none kV_own_words dc_own_words pm_own_words an_own_words cd_own_words ct_own_words), sl_own_words⟩)
    (c_own_words : PySem.W.codeIn K cd_own_words "own_words" = true)
    (k_own_words : PySem.W.keepIn K (.ref f_own_words) = true)
    (a_is_name : PySem.W.nsIn K mainGlobals "is_name" = some (some (.ref f_is_name)))
    (l_is_name : K.lookup f_is_name = some ⟨oc_is_name, od_is_name, .func (PySem.W.fnOf "is_name" "is_name" (defArgs s_is_name) (defBody s_is_name) (defScope s_is_name) .none kV_is_name dc_is_name pm_is_name an_is_name cd_is_name ct_is_name), sl_is_name⟩)
    (c_is_name : PySem.W.codeIn K cd_is_name "is_name" = true)
    (k_is_name : PySem.W.keepIn K (.ref f_is_name) = true)
    (a_number_in : PySem.W.nsIn K mainGlobals "number_in" = some (some (.ref f_number_in)))
    (l_number_in : K.lookup f_number_in = some ⟨oc_number_in, od_number_in, .func (PySem.W.fnOf "number_in" "number_in" (defArgs s_number_in) (defBody s_number_in) (defScope s_number_in) .none kV_number_in dc_number_in pm_number_in an_number_in cd_number_in ct_number_in), sl_number_in⟩)
    (c_number_in : PySem.W.codeIn K cd_number_in "number_in" = true)
    (k_number_in : PySem.W.keepIn K (.ref f_number_in) = true)
    (a_law_own : PySem.W.nsIn K mainGlobals "_law_own" = some (some (.ref f_law_own)))
    (l_law_own : K.lookup f_law_own = some ⟨oc_law_own, od_law_own, .func (PySem.W.fnOf "_law_own" "_law_own" (defArgs s_law_own) (defBody s_law_own) (defScope s_law_own) .none kV_law_own dc_law_own pm_law_own an_law_own cd_law_own ct_law_own), sl_law_own⟩)
    (c_law_own : PySem.W.codeIn K cd_law_own "_law_own" = true)
    (k_law_own : PySem.W.keepIn K (.ref f_law_own) = true)
    (a_law_word : PySem.W.nsIn K mainGlobals "_law_word" = some (some (.ref f_law_word)))
    (l_law_word : K.lookup f_law_word = some ⟨oc_law_word, od_law_word, .func (PySem.W.fnOf "_law_word" "_law_word" (defArgs s_law_word) (defBody s_law_word) (defScope s_law_word) .none kV_law_word dc_law_word pm_law_word an_law_word cd_law_word ct_law_word), sl_law_word⟩)
    (c_law_word : PySem.W.codeIn K cd_law_word "_law_word" = true)
    (k_law_word : PySem.W.keepIn K (.ref f_law_word) = true)
    (a_law_is_name : PySem.W.nsIn K mainGlobals "_law_is_name" = some (some (.ref f_law_is_name)))
    (l_law_is_name : K.lookup f_law_is_name = some ⟨oc_law_is_name, od_law_is_name, .func (PySem.W.fnOf "_law_is_name" "_law_is_name" (defArgs s_law_is_name) (defBody s_law_is_name) (defScope s_law_is_name) .none kV_law_is_name dc_law_is_name pm_law_is_name an_law_is_name cd_law_is_name ct_law_is_name), sl_law_is_name⟩)
    (c_law_is_name : PySem.W.codeIn K cd_law_is_name "_law_is_name" = true)
    (k_law_is_name : PySem.W.keepIn K (.ref f_law_is_name) = true)
    (a_law_figures : PySem.W.nsIn K mainGlobals "_law_figures" = some (some (.ref f_law_figures)))
    (l_law_figures : K.lookup f_law_figures = some ⟨oc_law_figures, od_law_figures, .func (PySem.W.fnOf "_law_figures" "_law_figures" (defArgs s_law_figures) (defBody s_law_figures) (defScope s_law_figures) .none kV_law_figures dc_law_figures pm_law_figures an_law_figures cd_law_figures ct_law_figures), sl_law_figures⟩)
    (c_law_figures : PySem.W.codeIn K cd_law_figures "_law_figures" = true)
    (k_law_figures : PySem.W.keepIn K (.ref f_law_figures) = true)
    (a_law_number : PySem.W.nsIn K mainGlobals "_law_number" = some (some (.ref f_law_number)))
    (l_law_number : K.lookup f_law_number = some ⟨oc_law_number, od_law_number, .func (PySem.W.fnOf "_law_number" "_law_number" (defArgs s_law_number) (defBody s_law_number) (defScope s_law_number) .none kV_law_number dc_law_number pm_law_number an_law_number cd_law_number ct_law_number), sl_law_number⟩)
    (c_law_number : PySem.W.codeIn K cd_law_number "_law_number" = true)
    (k_law_number : PySem.W.keepIn K (.ref f_law_number) = true)
    (a_law_truth : PySem.W.nsIn K mainGlobals "_law_truth" = some (some (.ref f_law_truth)))
    (l_law_truth : K.lookup f_law_truth = some ⟨oc_law_truth, od_law_truth, .func (PySem.W.fnOf "_law_truth" "_law_truth" (defArgs s_law_truth) (defBody s_law_truth) (defScope s_law_truth) .none kV_law_truth dc_law_truth pm_law_truth an_law_truth cd_law_truth ct_law_truth), sl_law_truth⟩)
    (c_law_truth : PySem.W.codeIn K cd_law_truth "_law_truth" = true)
    (k_law_truth : PySem.W.keepIn K (.ref f_law_truth) = true)
    (a_law_bounded : PySem.W.nsIn K mainGlobals "_law_bounded" = some (some (.ref f_law_bounded)))
    (l_law_bounded : K.lookup f_law_bounded = some ⟨oc_law_bounded, od_law_bounded, .func (PySem.W.fnOf "_law_bounded" "_law_bounded" (defArgs s_law_bounded) (defBody s_law_bounded) (defScope s_law_bounded) .none kV_law_bounded dc_law_bounded pm_law_bounded an_law_bounded cd_law_bounded ct_law_bounded), sl_law_bounded⟩)
    (c_law_bounded : PySem.W.codeIn K cd_law_bounded "_law_bounded" = true)
    (k_law_bounded : PySem.W.keepIn K (.ref f_law_bounded) = true)
    (a_law : PySem.W.nsIn K mainGlobals "law" = some (some (.ref f_law)))
    (l_law : K.lookup f_law = some ⟨oc_law, od_law, .func (PySem.W.fnOf "law" "law" (defArgs s_law) (defBody s_law) (defScope s_law) .none kV_law dc_law pm_law an_law cd_law ct_law), sl_law⟩)
    (c_law : PySem.W.codeIn K cd_law "law" = true)
    (k_law : PySem.W.keepIn K (.ref f_law) = true)
    (n_all : PySem.W.nsIn K mainGlobals "all" = some none)
    (n_bool : PySem.W.nsIn K mainGlobals "bool" = some none)
    (n_int : PySem.W.nsIn K mainGlobals "int" = some none)
    (n_isinstance : PySem.W.nsIn K mainGlobals "isinstance" = some none)
    (n_len : PySem.W.nsIn K mainGlobals "len" = some none)
    (n_list : PySem.W.nsIn K mainGlobals "list" = some none)
    (n_max : PySem.W.nsIn K mainGlobals "max" = some none)
    (n_min : PySem.W.nsIn K mainGlobals "min" = some none)
    (n_range : PySem.W.nsIn K mainGlobals "range" = some none)
    (n_str : PySem.W.nsIn K mainGlobals "str" = some none)
    {t_FIGURES : Tok} (q_FIGURES : PySem.W.nsIn K mainGlobals "FIGURES" = some (some (.str "0123456789" t_FIGURES)))
    {t_LETTERS : Tok} (q_LETTERS : PySem.W.nsIn K mainGlobals "LETTERS" = some (some (.str "abcdefghijklmnopqrstuvwxyz" t_LETTERS)))
    {t_LONGEST_NAME : Tok} (q_LONGEST_NAME : PySem.W.nsIn K mainGlobals "LONGEST_NAME" = some (some (.int 6 t_LONGEST_NAME)))
    {t_LONGEST_NUMBER : Tok} (q_LONGEST_NUMBER : PySem.W.nsIn K mainGlobals "LONGEST_NUMBER" = some (some (.int 10 t_LONGEST_NUMBER)))
    {TA_OWN_WORDS : Addr} (q_OWN_WORDS : PySem.W.nsIn K mainGlobals "OWN_WORDS" = some (some (.ref TA_OWN_WORDS)))
    {tk0_OWN_WORDS tk1_OWN_WORDS tk2_OWN_WORDS tk3_OWN_WORDS tk4_OWN_WORDS tk5_OWN_WORDS tk6_OWN_WORDS tk7_OWN_WORDS tk8_OWN_WORDS tk9_OWN_WORDS tk10_OWN_WORDS tk11_OWN_WORDS tk12_OWN_WORDS tk13_OWN_WORDS tk14_OWN_WORDS tk15_OWN_WORDS tk16_OWN_WORDS tk17_OWN_WORDS tk18_OWN_WORDS tk19_OWN_WORDS tk20_OWN_WORDS tk21_OWN_WORDS tk22_OWN_WORDS : Tok} {dT_OWN_WORDS : Option Addr} {nT_OWN_WORDS : Nat} {sT_OWN_WORDS : Array (Option Value)} (lt_OWN_WORDS : K.lookup TA_OWN_WORDS = some ⟨.type "tuple", dT_OWN_WORDS, .seq #[.str "shape" tk0_OWN_WORDS, .str "num" tk1_OWN_WORDS, .str "row" tk2_OWN_WORDS, .str "pick" tk3_OWN_WORDS, .str "tag" tk4_OWN_WORDS, .str "room" tk5_OWN_WORDS, .str "things" tk6_OWN_WORDS, .str "part" tk7_OWN_WORDS, .str "tags" tk8_OWN_WORDS, .str "put" tk9_OWN_WORDS, .str "take" tk10_OWN_WORDS, .str "many" tk11_OWN_WORDS, .str "look" tk12_OWN_WORDS, .str "which" tk13_OWN_WORDS, .str "store" tk14_OWN_WORDS, .str "choose" tk15_OWN_WORDS, .str "copy" tk16_OWN_WORDS, .str "each" tk17_OWN_WORDS, .str "span" tk18_OWN_WORDS, .str "if" tk19_OWN_WORDS, .str "else" tk20_OWN_WORDS, .str "end" tk21_OWN_WORDS, .str "out" tk22_OWN_WORDS] nT_OWN_WORDS, sT_OWN_WORDS⟩)
    : ∃ fd : FuncData, (∀ (s : Shared) (v : Value), BindsTo s fd ⟨[v], []⟩ [("_law_script", v)]) ∧ ∀ base : Heap, K.In base → base.Ns mainGlobals mg → FnOk l.prog w K mg base CX0 4 fa fd ["_law_script"] (spLaw K) := by
  have e := hfa.symm.trans (PySem.W.mg_of X G a_law)
  cases e
  have F_law_cell := fun_mk (st := s_law_cell) l_law_cell c_law_cell k_law_cell
  have F_law_begun := fun_mk (st := s_law_begun) l_law_begun c_law_begun k_law_begun
  have F_law_draw := fun_mk (st := s_law_draw) l_law_draw c_law_draw k_law_draw
  have F_is_whole := fun_mk (st := s_is_whole) l_is_whole c_is_whole k_is_whole
  have F_law_whole := fun_mk (st := s_law_whole) l_law_whole c_law_whole k_law_whole
  have F_are_signs := fun_mk (st := s_are_signs) l_are_signs c_are_signs k_are_signs
  have F_own_words := fun_mk (st := s_own_words) l_own_words c_own_words k_own_words
  have F_is_name := fun_mk (st := s_is_name) l_is_name c_is_name k_is_name
  have F_number_in := fun_mk (st := s_number_in) l_number_in c_number_in k_number_in
  have F_law_own := fun_mk (st := s_law_own) l_law_own c_law_own k_law_own
  have F_law_word := fun_mk (st := s_law_word) l_law_word c_law_word k_law_word
  have F_law_is_name := fun_mk (st := s_law_is_name) l_law_is_name c_law_is_name k_law_is_name
  have F_law_figures := fun_mk (st := s_law_figures) l_law_figures c_law_figures k_law_figures
  have F_law_number := fun_mk (st := s_law_number) l_law_number c_law_number k_law_number
  have F_law_truth := fun_mk (st := s_law_truth) l_law_truth c_law_truth k_law_truth
  have F_law_bounded := fun_mk (st := s_law_bounded) l_law_bounded c_law_bounded k_law_bounded
  have F_law := fun_mk (st := s_law) l_law c_law k_law
  have c_FIGURES : ∃ t, mg "FIGURES" = some (.str "0123456789" t) := ⟨_, PySem.W.mg_of X G q_FIGURES⟩
  have c_LETTERS : ∃ t, mg "LETTERS" = some (.str "abcdefghijklmnopqrstuvwxyz" t) := ⟨_, PySem.W.mg_of X G q_LETTERS⟩
  have c_LONGEST_NAME : ∃ t, mg "LONGEST_NAME" = some (.int 6 t) := ⟨_, PySem.W.mg_of X G q_LONGEST_NAME⟩
  have c_LONGEST_NUMBER : ∃ t, mg "LONGEST_NUMBER" = some (.int 10 t) := ⟨_, PySem.W.mg_of X G q_LONGEST_NUMBER⟩
  have c_OWN_WORDS : mg "OWN_WORDS" = some (.ref TA_OWN_WORDS) := PySem.W.mg_of X G q_OWN_WORDS
  have T_OWN_WORDS : ∀ H, SqT K H TA_OWN_WORDS [V.str "shape", V.str "num", V.str "row", V.str "pick", V.str "tag", V.str "room", V.str "things", V.str "part", V.str "tags", V.str "put", V.str "take", V.str "many", V.str "look", V.str "which", V.str "store", V.str "choose", V.str "copy", V.str "each", V.str "span", V.str "if", V.str "else", V.str "end", V.str "out"] := fun H => .inr ⟨_, _, _, lt_OWN_WORDS, rfl, rfl, (show (23 : Nat) ≤ sizeLine by decide), (.cons ⟨_, rfl⟩ (.cons ⟨_, rfl⟩ (.cons ⟨_, rfl⟩ (.cons ⟨_, rfl⟩ (.cons ⟨_, rfl⟩ (.cons ⟨_, rfl⟩ (.cons ⟨_, rfl⟩ (.cons ⟨_, rfl⟩ (.cons ⟨_, rfl⟩ (.cons ⟨_, rfl⟩ (.cons ⟨_, rfl⟩ (.cons ⟨_, rfl⟩ (.cons ⟨_, rfl⟩ (.cons ⟨_, rfl⟩ (.cons ⟨_, rfl⟩ (.cons ⟨_, rfl⟩ (.cons ⟨_, rfl⟩ (.cons ⟨_, rfl⟩ (.cons ⟨_, rfl⟩ (.cons ⟨_, rfl⟩ (.cons ⟨_, rfl⟩ (.cons ⟨_, rfl⟩ (.cons ⟨_, rfl⟩ .nil)))))))))))))))))))))))⟩
  have z_all : mg "all" = none := PySem.W.mg_none_of X G n_all
  have z_bool : mg "bool" = none := PySem.W.mg_none_of X G n_bool
  have z_int : mg "int" = none := PySem.W.mg_none_of X G n_int
  have z_isinstance : mg "isinstance" = none := PySem.W.mg_none_of X G n_isinstance
  have z_len : mg "len" = none := PySem.W.mg_none_of X G n_len
  have z_list : mg "list" = none := PySem.W.mg_none_of X G n_list
  have z_max : mg "max" = none := PySem.W.mg_none_of X G n_max
  have z_min : mg "min" = none := PySem.W.mg_none_of X G n_min
  have z_range : mg "range" = none := PySem.W.mg_none_of X G n_range
  have z_str : mg "str" = none := PySem.W.mg_none_of X G n_str
  refine ⟨PySem.W.fnOf "law" "law" (defArgs s_law) (defBody s_law) (defScope s_law) .none kV_law dc_law pm_law an_law cd_law ct_law, fun s v => .of_eq rfl, fun base _ _ => ?_⟩
  have D_law_cell : Dn l.prog w K mg base CX0 1 "_law_cell" ["_law_script", "_law_k"] (spCell K) := ⟨⟨_, _, ok_cell F_law_cell z_len, PySem.W.mg_of X G a_law_cell, k_law_cell, F_law_cell.binds (ps := ["_law_script", "_law_k"]) fun _ _ _ _ _ _ us hl => match us, hl with | [_, _], _ => rfl⟩⟩
  have D_law_begun : Dn l.prog w K mg base CX0 1 "_law_begun" ["_law_cell_here"] spBegun := ⟨⟨_, _, ok_begun F_law_begun, PySem.W.mg_of X G a_law_begun, k_law_begun, F_law_begun.binds (ps := ["_law_cell_here"]) fun _ _ _ _ _ _ us hl => match us, hl with | [_], _ => rfl⟩⟩
  have D_law_draw : Dn l.prog w K mg base CX0 1 "_law_draw" ["_law_state", "_law_many"] spDraw := ⟨⟨_, _, ok_draw F_law_draw, PySem.W.mg_of X G a_law_draw, k_law_draw, F_law_draw.binds (ps := ["_law_state", "_law_many"]) fun _ _ _ _ _ _ us hl => match us, hl with | [_, _], _ => rfl⟩⟩
  have D_is_whole : Dn l.prog w K mg base CX0 1 "is_whole" ["thing"] (spIsWhole K) := ⟨⟨_, _, ok_isWhole F_is_whole z_isinstance z_int z_bool, PySem.W.mg_of X G a_is_whole, k_is_whole, F_is_whole.binds (ps := ["thing"]) fun _ _ _ _ _ _ us hl => match us, hl with | [_], _ => rfl⟩⟩
  have D_law_whole : Dn l.prog w K mg base CX0 1 "_law_whole" ["_law_found"] (spLWhole K) := ⟨⟨_, _, ok_lwhole F_law_whole z_isinstance z_int z_bool, PySem.W.mg_of X G a_law_whole, k_law_whole, F_law_whole.binds (ps := ["_law_found"]) fun _ _ _ _ _ _ us hl => match us, hl with | [_], _ => rfl⟩⟩
  have D_are_signs : Dn l.prog w K mg base CX0 1 "are_signs" ["text", "signs"] spAre := ⟨⟨_, _, ok_are F_are_signs, PySem.W.mg_of X G a_are_signs, k_are_signs, F_are_signs.binds (ps := ["text", "signs"]) fun _ _ _ _ _ _ us hl => match us, hl with | [_, _], _ => rfl⟩⟩
  have D_own_words : Dn l.prog w K mg base CX0 1 "own_words" [] spOwn := ⟨⟨_, _, ok_own F_own_words z_list c_OWN_WORDS T_OWN_WORDS, PySem.W.mg_of X G a_own_words, k_own_words, F_own_words.binds (ps := []) fun _ _ _ _ _ _ us hl => match us, hl with | [], _ => rfl⟩⟩
  have D_is_name : Dn l.prog w K mg base CX0 2 "is_name" ["thing"] (spIsName K) := ⟨⟨_, _, ok_isName F_is_name z_isinstance z_str z_len c_LONGEST_NAME c_LETTERS c_OWN_WORDS T_OWN_WORDS D_are_signs, PySem.W.mg_of X G a_is_name, k_is_name, F_is_name.binds (ps := ["thing"]) fun _ _ _ _ _ _ us hl => match us, hl with | [_], _ => rfl⟩⟩
  have D_number_in : Dn l.prog w K mg base CX0 2 "number_in" ["text", "low", "high"] (spNumIn K) := ⟨⟨_, _, ok_numIn F_number_in z_isinstance z_str z_int z_len c_LONGEST_NUMBER c_FIGURES D_are_signs, PySem.W.mg_of X G a_number_in, k_number_in, F_number_in.binds (ps := ["text", "low", "high"]) fun _ _ _ _ _ _ us hl => match us, hl with | [_, _, _], _ => rfl⟩⟩
  have D_law_own : Dn l.prog w K mg base CX0 1 "_law_own" [] spOwn := ⟨⟨_, _, ok_lown F_law_own, PySem.W.mg_of X G a_law_own, k_law_own, F_law_own.binds (ps := []) fun _ _ _ _ _ _ us hl => match us, hl with | [], _ => rfl⟩⟩
  have D_law_word : Dn l.prog w K mg base CX0 2 "_law_word" ["_law_state"] spWord := ⟨⟨_, _, ok_word F_law_word z_len z_range D_law_own D_law_draw, PySem.W.mg_of X G a_law_word, k_law_word, F_law_word.binds (ps := ["_law_state"]) fun _ _ _ _ _ _ us hl => match us, hl with | [_], _ => rfl⟩⟩
  have D_law_is_name : Dn l.prog w K mg base CX0 2 "_law_is_name" ["_law_word_here"] spLIsName := ⟨⟨_, _, ok_lisName F_law_is_name z_len z_all D_law_own, PySem.W.mg_of X G a_law_is_name, k_law_is_name, F_law_is_name.binds (ps := ["_law_word_here"]) fun _ _ _ _ _ _ us hl => match us, hl with | [_], _ => rfl⟩⟩
  have D_law_figures : Dn l.prog w K mg base CX0 2 "_law_figures" ["_law_state"] spWord := ⟨⟨_, _, ok_figures F_law_figures z_len z_range z_str D_law_draw, PySem.W.mg_of X G a_law_figures, k_law_figures, F_law_figures.binds (ps := ["_law_state"]) fun _ _ _ _ _ _ us hl => match us, hl with | [_], _ => rfl⟩⟩
  have D_law_number : Dn l.prog w K mg base CX0 1 "_law_number" ["_law_text"] spLNumber := ⟨⟨_, _, ok_lnumber F_law_number z_len z_all, PySem.W.mg_of X G a_law_number, k_law_number, F_law_number.binds (ps := ["_law_text"]) fun _ _ _ _ _ _ us hl => match us, hl with | [_], _ => rfl⟩⟩
  have D_law_truth : Dn l.prog w K mg base CX0 1 "_law_truth" ["_law_found", "_law_due"] spTruth := ⟨⟨_, _, ok_truth F_law_truth z_isinstance z_bool, PySem.W.mg_of X G a_law_truth, k_law_truth, F_law_truth.binds (ps := ["_law_found", "_law_due"]) fun _ _ _ _ _ _ us hl => match us, hl with | [_, _], _ => rfl⟩⟩
  have D_law_bounded : Dn l.prog w K mg base CX0 3 "_law_bounded" ["_law_state", "_law_text"] spBounded := ⟨⟨_, _, ok_bounded F_law_bounded z_isinstance z_bool D_law_draw D_law_number D_number_in, PySem.W.mg_of X G a_law_bounded, k_law_bounded, F_law_bounded.binds (ps := ["_law_state", "_law_text"]) fun _ _ _ _ _ _ us hl => match us, hl with | [_, _], _ => rfl⟩⟩
  exact ok_law F_law z_isinstance z_list z_len z_range z_max z_min D_law_own D_law_begun D_law_cell D_law_word D_law_figures D_law_truth D_is_name D_is_whole D_law_is_name D_law_bounded D_law_draw D_number_in D_own_words
end K02
open PySem PySem.W PyProof.Rows
set_option maxHeartbeats 0 in
theorem PySem.Challenge.cw_roomslaid_k02_names_and_numbers_holds : PySem.Challenge.rw_roomslaid_k02_names_and_numbers.Holds := by
  w_on; o_law; k_head; (case hw => w_witness2)
  k_fill
  refine L2.walk_of (l := PySem.Challenge.rw_roomslaid_k02_names_and_numbers) (n := 63) (k := 4) (x := "_law_script") (CX := fun _ => L2.CX0) (sp := fun w => K02.spLaw _) rfl (by decide) rfl ⟨rfl, by decide, by decide⟩ (fun w h Y => PySem.W.kIn_of Y) ?F (fun _ _ a ns hl _ hS => ⟨a, ns, rfl, hS, hl, fun _ => rfl⟩) (fun _ _ _ _ _ h => h)
  case F =>
    intro w mg fa h KX G hmg
    refine' K02.all_mk KX G hmg ?a_law_cell ?l_law_cell ?c_law_cell ?k_law_cell ?a_law_begun ?l_law_begun ?c_law_begun ?k_law_begun ?a_law_draw ?l_law_draw ?c_law_draw ?k_law_draw ?a_is_whole ?l_is_whole ?c_is_whole ?k_is_whole ?a_law_whole ?l_law_whole ?c_law_whole ?k_law_whole ?a_are_signs ?l_are_signs ?c_are_signs ?k_are_signs ?a_own_words ?l_own_words ?c_own_words ?k_own_words ?a_is_name ?l_is_name ?c_is_name ?k_is_name ?a_number_in ?l_number_in ?c_number_in ?k_number_in ?a_law_own ?l_law_own ?c_law_own ?k_law_own ?a_law_word ?l_law_word ?c_law_word ?k_law_word ?a_law_is_name ?l_law_is_name ?c_law_is_name ?k_law_is_name ?a_law_figures ?l_law_figures ?c_law_figures ?k_law_figures ?a_law_number ?l_law_number ?c_law_number ?k_law_number ?a_law_truth ?l_law_truth ?c_law_truth ?k_law_truth ?a_law_bounded ?l_law_bounded ?c_law_bounded ?k_law_bounded ?a_law ?l_law ?c_law ?k_law ?n_all ?n_bool ?n_int ?n_isinstance ?n_len ?n_list ?n_max ?n_min ?n_range ?n_str ?q_FIGURES ?q_LETTERS ?q_LONGEST_NAME ?q_LONGEST_NUMBER ?q_OWN_WORDS ?lt_OWN_WORDS
    (case a_law_cell => k_is)
    (case l_law_cell => k_is)
    (case c_law_cell => k_is)
    (case k_law_cell => k_is)
    (case a_law_begun => k_is)
    (case l_law_begun => k_is)
    (case c_law_begun => k_is)
    (case k_law_begun => k_is)
    (case a_law_draw => k_is)
    (case l_law_draw => k_is)
    (case c_law_draw => k_is)
    (case k_law_draw => k_is)
    (case a_is_whole => k_is)
    (case l_is_whole => k_is)
    (case c_is_whole => k_is)
    (case k_is_whole => k_is)
    (case a_law_whole => k_is)
    (case l_law_whole => k_is)
    (case c_law_whole => k_is)
    (case k_law_whole => k_is)
    (case a_are_signs => k_is)
    (case l_are_signs => k_is)
    (case c_are_signs => k_is)
    (case k_are_signs => k_is)
    (case a_own_words => k_is)
    (case l_own_words => k_is)
    (case c_own_words => k_is)
    (case k_own_words => k_is)
    (case a_is_name => k_is)
    (case l_is_name => k_is)
    (case c_is_name => k_is)
    (case k_is_name => k_is)
    (case a_number_in => k_is)
    (case l_number_in => k_is)
    (case c_number_in => k_is)
    (case k_number_in => k_is)
    (case a_law_own => k_is)
    (case l_law_own => k_is)
    (case c_law_own => k_is)
    (case k_law_own => k_is)
    (case a_law_word => k_is)
    (case l_law_word => k_is)
    (case c_law_word => k_is)
    (case k_law_word => k_is)
    (case a_law_is_name => k_is)
    (case l_law_is_name => k_is)
    (case c_law_is_name => k_is)
    (case k_law_is_name => k_is)
    (case a_law_figures => k_is)
    (case l_law_figures => k_is)
    (case c_law_figures => k_is)
    (case k_law_figures => k_is)
    (case a_law_number => k_is)
    (case l_law_number => k_is)
    (case c_law_number => k_is)
    (case k_law_number => k_is)
    (case a_law_truth => k_is)
    (case l_law_truth => k_is)
    (case c_law_truth => k_is)
    (case k_law_truth => k_is)
    (case a_law_bounded => k_is)
    (case l_law_bounded => k_is)
    (case c_law_bounded => k_is)
    (case k_law_bounded => k_is)
    (case a_law => k_is)
    (case l_law => k_is)
    (case c_law => k_is)
    (case k_law => k_is)
    (case n_all => k_is)
    (case n_bool => k_is)
    (case n_int => k_is)
    (case n_isinstance => k_is)
    (case n_len => k_is)
    (case n_list => k_is)
    (case n_max => k_is)
    (case n_min => k_is)
    (case n_range => k_is)
    (case n_str => k_is)
    (case q_FIGURES => k_is)
    (case q_LETTERS => k_is)
    (case q_LONGEST_NAME => k_is)
    (case q_LONGEST_NUMBER => k_is)
    (case q_OWN_WORDS => k_is)
    (case lt_OWN_WORDS => k_is)
