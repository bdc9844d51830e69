import PyProof.Rows.All
import Wide.All
import OpenK.AllK
import Wide.FinOn
import HandS.ForMost
import HandS.NoneIn
import HandS.IsInst
import HandS.Wide
import HandS.WideBits
import PyProof.LongRange
import PySem.Challenge.RW_roomslaid_k47_lines_touched
set_option Elab.async false
set_option linter.all false
set_option maxRecDepth 100000
set_option maxHeartbeats 4000000
/-! my base: short calls, heaps, readings by simp -/
namespace Rb
open PySem PySem.Spec PyProof.Rows L2

/-! ### a def of the text with its promise -/
structure Dn (P : Program) (w : World) (K : PySem.W.Frag) (mg : Str → Option Value) (base : Heap) (CX : CXT) (k : Nat) (x : Str) (ps : List Str) (sp : Sp) : Prop where
  ex : ∃ f fd, FnOk P w K mg base CX k f fd ps sp ∧ mg x = some (.ref f) ∧ PySem.W.keepIn K (.ref f) = true ∧ Binds K fd ps []
section
variable {X : Cx} {CX : CXT} {k : Nat} {ps : List Str} {sp : Sp} {E : XK} {x : Str} {p pos : Pos} {e : Expr} {es : List Expr} {t : TA}
theorem pe_cd (D : Dn X.prog X.w X.K X.mg X.base CX k x ps sp) (hr : Room k X.A) (hg : Gl X x) (hx : Passes CX X E) (ha : PA X (e :: es) t)
    (hdb : (x == ("__debug__" : Str)) = false := by decide) (he : starEach (e :: es) X.env = (false, eval e X.env) :: starEach es X.env := by rfl) (hpl : (backTo pos (starEach es X.env)).any (·.1) = false := by rfl) :
    PE X (.Call (.Name x p) (e :: es) [] pos) (tCall sp [] E t) := by
  obtain ⟨f, fd, F, m, kp, b⟩ := D.ex
  exact pe_call F hr hg m kp b .nil hx ha hdb he hpl
theorem pe_cd0 (D : Dn X.prog X.w X.K X.mg X.base CX k x ps sp) (hr : Room k X.A) (hg : Gl X x) (hx : Passes CX X E)
    (hdb : (x == ("__debug__" : Str)) = false := by decide) : PE X (.Call (.Name x p) [] [] pos) (tCall sp [] E tNil) := by
  obtain ⟨f, fd, F, m, kp, b⟩ := D.ex
  exact pe_call0 F hr hg m kp b .nil hx hdb
end

/-! ### heaps -/
/-- all but a is as it was -/
def Off (a : Addr) (H H' : Hp) : Prop := ∀ b o, b ≠ a → H b = some o → H' b = some o
theorem Off.refl {a : Addr} (H : Hp) : Off a H H := fun _ _ _ h => h
theorem Off.trans {a : Addr} {H H1 H2 : Hp} (p : Off a H H1) (q : Off a H1 H2) : Off a H H2 := fun b o n h => q b o n (p b o n h)
theorem Off.of {a : Addr} {H H' : Hp} (s : Same H H') : Off a H H' := fun b o _ h => s b o h
theorem Off.upd {a : Addr} {H : Hp} {o : HO} : Off a H (upd H a o) := fun b u n h => by rw [upd_ne n]; exact h
theorem Off.at {a b : Addr} {H H' : Hp} {o u : HO} (f : Off a H H') (h : H b = some o) (ha : H a = some u) (ne : o ≠ u) : H' b = some o := f b o (ne_of h ha ne) h
theorem same_new {H : Hp} {p : Addr} {o : HO} (h : H p = none) : Same H (upd H p o) := fun b u e => by rw [upd_ne (ne_of_none e h)]; exact e
/-- a new object: its place, the heap from then on -/
theorem new_intro {H : Hp} {o : HO} {Q : VK} (h : ∀ p H1, H p = none → Same H H1 → H1 p = some o → Q (.ref p) H1) : ∀ p, H p = none → Q (.ref p) (upd H p o) := fun p hp => h p _ hp (same_new hp) upd_same
theorem Same.rd {H H' : Hp} {a : Addr} {u : HO} (s : Same H H') (h : Rd H a u) : Rd H' a u := by
  rcases h with h | ⟨o, h⟩
  · exact .inl (s _ _ h)
  · exact .inr ⟨o, s _ _ h⟩
theorem Same.seqT {K : PySem.W.Frag} {H H' : Hp} {a : Addr} {xs : List V} (e : Same H H') (h : SqT K H a xs) : SqT K H' a xs := by
  rcases h with h | h
  · exact .inl (Same.rd e h)
  · exact .inr h
theorem seq_of {K : PySem.W.Frag} {H : Hp} {a : Addr} {xs : List V} (h : H a = some (.lst xs)) : SqL K H a xs := .inl (.inl h)
theorem seqT_of {K : PySem.W.Frag} {H : Hp} {a : Addr} {xs : List V} (h : H a = some (.tup xs)) : SqT K H a xs := .inl (.inl h)
theorem Off.seq {K : PySem.W.Frag} {a b : Addr} {H H' : Hp} {xs ys : List V} (f : Off a H H') (h : SqL K H b xs) (ha : H a = some (.lst ys)) (hb : b ≠ a) : SqL K H' b xs := by
  rcases h with (h | ⟨o, h⟩) | h
  · exact .inl (.inl (f _ _ hb h))
  · exact .inl (.inr ⟨o, f _ _ hb h⟩)
  · exact .inr h
theorem Off.frz {a b : Addr} {H H' : Hp} {o : Obj} {u : HO} {ys : List V} (f : Off a H H') (h : H b = some (.frz o u)) (ha : H a = some (.lst ys)) : H' b = some (.frz o u) := f.at h ha (by intro z; cases z)
/-- made since H, changed as one likes -/
theorem Same.mut {H H' : Hp} {p : Addr} {o : HO} (s : Same H H') (h : H p = none) : Same H (upd H' p o) := fun b u e => by rw [upd_ne (ne_of_none e h)]; exact s b u e
theorem Same.off {a : Addr} {H H1 H2 : Hp} (s : Same H H1) (h : H a = none) (f : Off a H1 H2) : Same H H2 := fun b u e => f b u (ne_of_none e h) (s b u e)
theorem none_back {H H' : Hp} {p : Addr} (s : Same H H') (h : H' p = none) : H p = none := s.free h
theorem Off.none {a p : Addr} {H H' : Hp} {u : HO} (f : Off a H H') (ha : H a = some u) (ha' : H' p = Option.none) (h' : ∃ o, H' a = some o) : H p = Option.none := by
  cases q : H p with
  | none => rfl
  | some o =>
    by_cases e : p = a
    · subst e
      obtain ⟨o', h'⟩ := h'
      rw [h'] at ha'; cases ha'
    · rw [f p o e q] at ha'; cases ha'
/-! ### what comes new, what is changed: told by letters -/
def New (H : Hp) (o : HO) (R : Addr → Hp → Prop) : Prop := ∀ p, H p = none → R p (upd H p o)
theorem New.intro {H : Hp} {o : HO} {R : Addr → Hp → Prop} (h : ∀ p H2, H p = none → Same H H2 → H2 p = some o → R p H2) : New H o R := fun p hp => h p _ hp (same_new hp) upd_same
def Upd (H : Hp) (a : Addr) (o : HO) (R : Hp → Prop) : Prop := R (upd H a o)
theorem Upd.intro {H : Hp} {a : Addr} {o : HO} {R : Hp → Prop} (h : ∀ H2, Off a H H2 → H2 a = some o → R H2) : Upd H a o R := h _ Off.upd upd_same
def Loop (J : It) (g : TG) (tb : TS) (D : Ends) (σ : L2.St) (H : Hp) : Prop := ∃ W : Nat → Nat → L2.St → Hp → Prop, (∃ m, W 0 m σ H) ∧ ∀ i m σ H, W i m σ H →
  (J.stop i H ∧ D.nx σ H) ∨ (J.go i H ∧ ∃ N : L2.St → Hp → Prop, (∀ σ' H', N σ' H' → ∃ m', m' < m ∧ W (i + 1) m' σ' H') ∧ ∀ x H', J.yld i H x H' → g x σ H' fun σ2 H2 => tb { D with nx := N, ct := N, bk := D.nx } σ2 H2)
def Cmp (J : It) (g : TG) (tt : TT) (te : TE) (vs : List Nat) (σ : L2.St) (H1 : Hp) (Q : VK) : Prop := ∀ D, H1 D = none → ∃ W : Nat → Nat → Hp → Prop, (∃ m, W 0 m (upd H1 D (.lst []))) ∧ ∀ i m H, W i m H →
  (J.stop i H ∧ Q (.ref D) H) ∨ (J.go i H ∧ ∃ Nx : Hp → Prop, (∀ H', Nx H' → ∃ m', m' < m ∧ W (i + 1) m' H') ∧ ∀ x H', J.yld i H x H' → g x (wipe σ vs) H' fun σ2 H2 => wipe σ2 vs = wipe σ vs ∧ tt σ2 H2 fun b H3 =>
    if b = true then te σ2 H3 fun y H4 => ∃ acc, H4 D = some (.lst acc) ∧ acc.length < sizeLine ∧ Nx (upd H4 D (.lst (acc ++ [y]))) else Nx H3)
theorem tTup_n {t : TA} : tTup t = fun σ H Q => t σ H fun xs H1 => xs.length ≤ sizeLine ∧ New H1 (.tup xs) fun p H2 => Q (.ref p) H2 := rfl
theorem tLst_n {t : TA} : tLst t = fun σ H Q => t σ H fun xs H1 => xs.length ≤ sizeLine ∧ New H1 (.lst xs) fun p H2 => Q (.ref p) H2 := rfl
theorem rSlL_n {K : PySem.W.Frag} : rSlL K = fun x lo hi H Q => ∃ a xs, x = .ref a ∧ SqL K H a xs ∧ New H (.lst (cutV xs lo hi)) fun p H2 => Q (.ref p) H2 := rfl
theorem rAppend_n : rAppend = fun x vs H Q => ∃ l xs y, x = .ref l ∧ vs = [y] ∧ H l = some (.lst xs) ∧ xs.length < sizeLine ∧ Upd H l (.lst (xs ++ [y])) fun H2 => Q .non H2 := rfl
theorem rExtend_n : rExtend = fun x vs H Q => ∃ l b xs zs, x = .ref l ∧ vs = [.ref b] ∧ H l = some (.lst xs) ∧ H b = some (.lst zs) ∧ xs.length + zs.length ≤ sizeLine ∧ Upd H l (.lst (xs ++ zs)) fun H2 => Q .non H2 := rfl
theorem rPop_n : rPop = fun x vs H Q => ∃ l xs y, x = .ref l ∧ vs = [] ∧ H l = some (.lst xs) ∧ xs[xs.length - 1]? = some y ∧ Upd H l (.lst xs.dropLast) fun H2 => Q y H2 := rfl
theorem rClear_n : rClear = fun x vs H Q => ∃ l xs, x = .ref l ∧ vs = [] ∧ H l = some (.lst xs) ∧ Upd H l (.lst []) fun H2 => Q .non H2 := rfl
theorem rSetL_n : rSetL = fun o i v H Q => ∃ p xs k j, o = .ref p ∧ i = .int k ∧ H p = some (.lst xs) ∧ ixN xs.length k = some j ∧ Upd H p (.lst (xs.set j v)) fun H2 => Q H2 := rfl
theorem tFor_n {wi : TI} {g : TG} {tb : TS} : tFor wi g tb = fun D σ H => wi σ H fun J H1 => Loop J g tb D σ H1 := rfl
theorem tLc_n {wi : TI} {g : TG} {tt : TT} {te : TE} {vs : List Nat} : tLc wi g tt te vs = fun σ H Q => wi σ H fun J H1 => Cmp J g tt te vs σ H1 Q := rfl
/-! built-ins, by letters -/
def rDivmod : List V → Hp → VK → Prop := fun xs H Q => ∃ i j, xs = [.int i, .int j] ∧ CDiv i j ∧ New H (.tup [.int (i / j), .int (i % j)]) fun p H2 => Q (.ref p) H2
theorem call_divmodR {X : Cx} : CallR X (.builtin "divmod") rDivmod := call_divmod
def rListOf (K : PySem.W.Frag) : List V → Hp → VK → Prop := fun xs H Q => ∃ p ys, xs = [.ref p] ∧ (SqL K H p ys ∨ SqT K H p ys) ∧ New H (.lst ys) fun l H2 => Q (.ref l) H2
theorem call_listR {X : Cx} {K : PySem.W.Frag} (h : X.K = K := by rfl) : CallR X (.type "list") (rListOf K) := by subst h; exact call_list_of
def rTupOf (K : PySem.W.Frag) : List V → Hp → VK → Prop := fun xs H Q => ∃ p ys, xs = [.ref p] ∧ ((SqL K H p ys ∧ New H (.tup ys) fun l H2 => Q (.ref l) H2) ∨ (SqT K H p ys ∧ Q (.ref p) H))
theorem call_tupR {X : Cx} {K : PySem.W.Frag} (h : X.K = K := by rfl) : CallR X (.type "tuple") (rTupOf K) := by subst h; exact call_tuple_of
def rLenSeq (K : PySem.W.Frag) : List V → Hp → VK → Prop := fun xs H Q => ∃ p ys, xs = [.ref p] ∧ (SqL K H p ys ∨ SqT K H p ys) ∧ Q (.int ys.length) H
theorem call_lenR {X : Cx} {K : PySem.W.Frag} (h : X.K = K := by rfl) : CallR X (.builtin "len") (rLenSeq K) := by subst h; exact call_len_seq
def rMin2 : List V → Hp → VK → Prop := fun xs H Q => ∃ i j, xs = [.int i, .int j] ∧ Q (.int (if j < i then j else i)) H
def rMax2 : List V → Hp → VK → Prop := fun xs H Q => ∃ i j, xs = [.int i, .int j] ∧ Q (.int (if j > i then j else i)) H
theorem call_min2R {X : Cx} (hc : X.calm = true) : CallR X (.builtin "min") rMin2 := call_min2 hc
theorem call_max2R {X : Cx} (hc : X.calm = true) : CallR X (.builtin "max") rMax2 := call_max2 hc

/-! ### kinds of things -/
def kinds : List String := ["NoneType", "bool", "int", "str", "list", "tuple", "dict"]
def kindIs (T U : String) : Bool := T == U || (T == "bool" && U == "int")
theorem kd_all : ∀ T ∈ kinds, ∀ U ∈ ["bool", "int", "str", "list", "tuple", "dict"], kitB T U = some (kindIs T U) := by decide +kernel
def Thg (K : PySem.W.Frag) (H : Hp) (x : V) (T : String) : Prop := TyX K H x (.type T) ∧ T ∈ kinds
def isWh : V → Bool
  | .int _ => true
  | _ => false
theorem isi {K : PySem.W.Frag} {H : Hp} {x : V} {T U : String} {b : Bool} {R : Bool → Prop} (ty : TyX K H x (.type T)) (h : kitB T U = some b) (q : R b) : ∃ (t u : Value), ClsV (.ty U) u ∧ TyX K H x t ∧ ∃ b', PySem.W.kitOne K t u = some b' ∧ R b' :=
  ⟨_, _, .ty U, ty, b, kit_ty h, q⟩
/-- isinstance of any thing -/
theorem isiT {K : PySem.W.Frag} {H : Hp} {x : V} {T U : String} {R : Bool → Prop} (t : Thg K H x T) (hU : U ∈ ["bool", "int", "str", "list", "tuple", "dict"]) (q : R (kindIs T U)) : ∃ (t u : Value), ClsV (.ty U) u ∧ TyX K H x t ∧ ∃ b', PySem.W.kitOne K t u = some b' ∧ R b' :=
  isi t.1 (kd_all T t.2 U hU) q
theorem thg_int {K : PySem.W.Frag} {H : Hp} {i : Int} : Thg K H (.int i) "int" := ⟨.base (.int i), by decide⟩
theorem thg_bl {K : PySem.W.Frag} {H : Hp} {b : Bool} : Thg K H (.bl b) "bool" := ⟨.base (.bl b), by decide⟩
theorem thg_non {K : PySem.W.Frag} {H : Hp} : Thg K H .non "NoneType" := ⟨.base .non, by decide⟩
theorem thg_str {K : PySem.W.Frag} {H : Hp} {z : Str} : Thg K H (.str z) "str" := ⟨.base (.str z), by decide⟩
theorem thg_lst {K : PySem.W.Frag} {H : Hp} {a : Addr} {xs : List V} (h : H a = some (.lst xs)) : Thg K H (.ref a) "list" := ⟨.base (.lst h), by decide⟩
theorem thg_dK {K : PySem.W.Frag} {H : Hp} {a : Addr} {xs : List (Key × V)} (h : H a = some (.dK xs)) : Thg K H (.ref a) "dict" := ⟨.base (.dK h), by decide⟩
theorem thg_tup {K : PySem.W.Frag} {H : Hp} {a : Addr} {xs : List V} (h : SqT K H a xs) : Thg K H (.ref a) "tuple" := by
  refine ⟨?_, by decide⟩
  rcases h with (h | ⟨o, h⟩) | ⟨o, _, _, h, hc, _⟩
  · exact .base (.tup h)
  · exact .fTuple h
  · exact .kTuple h hc
theorem thg_seq {K : PySem.W.Frag} {H : Hp} {a : Addr} {xs : List V} (h : SqL K H a xs) : Thg K H (.ref a) "list" := by
  refine ⟨?_, by decide⟩
  rcases h with (h | ⟨o, h⟩) | ⟨o, _, _, h, hc, _⟩
  · exact .base (.lst h)
  · exact .base (.frz h)
  · exact .kList h hc
/-- whole numbers and no others are of the kind int alone -/
theorem isWh_of {K : PySem.W.Frag} {H : Hp} {x : V} {T : String} (t : Thg K H x T) : (kindIs T "int" && !kindIs T "bool") = isWh x := by
  obtain ⟨ty, hT⟩ := t
  generalize hc : Value.type T = c at ty
  cases ty with
  | base b =>
    cases b with
    | ins e cl ha hn htk hm => cases hc
    | _ => cases hc; rfl
  | byt b =>
    cases hc
    exact absurd hT (by decide)
  | set e =>
    cases hc
    exact absurd hT (by decide)
  | kList e c => cases hc; rfl
  | kTuple e c => cases hc; rfl
  | kDict e c => cases hc; rfl
  | fTuple e => cases hc; rfl
  | fDict e => cases hc; rfl
/-! ### constants of the module -/
theorem pe_gi {X : Cx} {x : Str} {v : Int} {pos : Pos} (hg : Gl X x) (hm : ∃ t, X.mg x = some (.int v t)) (hd : (x == ("__debug__" : Str)) = false := by decide) : PE X (.Name x pos) (tC (.int v)) := by
  obtain ⟨t, hm⟩ := hm
  exact pe_glob hg hm ⟨t, rfl⟩ hd
theorem pe_gs {X : Cx} {x v : Str} {pos : Pos} (hg : Gl X x) (hm : ∃ t, X.mg x = some (.str v t)) (hd : (x == ("__debug__" : Str)) = false := by decide) : PE X (.Name x pos) (tC (.str v)) := by
  obtain ⟨t, hm⟩ := hm
  exact pe_glob hg hm ⟨t, rfl⟩ hd
/-! ### tuples in a list -/
def Tups (K : PySem.W.Frag) (H : Hp) : List V → List (List V) → Prop := Paired fun x d => ∃ a, x = .ref a ∧ SqT K H a d
theorem Tups.same {K : PySem.W.Frag} {H H' : Hp} {xs : List V} {ds : List (List V)} (t : Tups K H xs ds) (s : Same H H') : Tups K H' xs ds := Paired.mapP t fun x d ⟨a, e, h⟩ => ⟨a, e, Same.seqT s h⟩
theorem Tups.get {K : PySem.W.Frag} {H : Hp} : ∀ {xs : List V} {ds : List (List V)} {i : Nat} {x : V}, Tups K H xs ds → xs[i]? = some x → ∃ a d, ds[i]? = some d ∧ x = .ref a ∧ SqT K H a d
  | _, _, _, _, .nil, e => by simp at e
  | _, _, 0, _, .cons ⟨a, e1, h⟩ _, e => by
    cases e
    exact ⟨a, _, rfl, e1, h⟩
  | _, _, i + 1, x, .cons _ t, e => Tups.get (i := i) t (by simpa using e)
theorem Tups.append {K : PySem.W.Frag} {H : Hp} : ∀ {xs ys : List V} {ds es : List (List V)}, Tups K H xs ds → Tups K H ys es → Tups K H (xs ++ ys) (ds ++ es)
  | _, _, _, _, .nil, s => s
  | _, _, _, _, .cons r t, s => .cons r (Tups.append t s)
theorem Tups.take {K : PySem.W.Frag} {H : Hp} : ∀ {xs : List V} {ds : List (List V)} (n : Nat), Tups K H xs ds → Tups K H (xs.take n) (ds.take n)
  | _, _, 0, _ => .nil
  | _, _, _ + 1, .nil => .nil
  | _, _, n + 1, .cons r t => .cons r (Tups.take n t)
theorem Tups.len {K : PySem.W.Frag} {H : Hp} {xs : List V} {ds : List (List V)} (t : Tups K H xs ds) : xs.length = ds.length := Paired.length t
theorem SqT.off {K : PySem.W.Frag} {H H' : Hp} {D a : Addr} {xs ys : List V} (f : Off D H H') (hD : H D = some (.lst ys)) (h : SqT K H a xs) : SqT K H' a xs := by
  rcases h with (h | ⟨o, h⟩) | h
  · exact .inl (.inl (f.at h hD (by intro z; cases z)))
  · exact .inl (.inr ⟨o, f.at h hD (by intro z; cases z)⟩)
  · exact .inr h
theorem Tups.off {K : PySem.W.Frag} {H H' : Hp} {D : Addr} {xs ys : List V} {ds : List (List V)} (t : Tups K H xs ds) (f : Off D H H') (hD : H D = some (.lst ys)) : Tups K H' xs ds := Paired.mapP t fun x d ⟨a, e, h⟩ => ⟨a, e, SqT.off f hD h⟩
theorem SqL.off {K : PySem.W.Frag} {H H' : Hp} {D a : Addr} {xs : List V} (f : Off D H H') (n : a ≠ D) (h : SqL K H a xs) : SqL K H' a xs := by
  rcases h with (h | ⟨o, h⟩) | h
  · exact .inl (.inl (f _ _ n h))
  · exact .inl (.inr ⟨o, f _ _ n h⟩)
  · exact .inr h
theorem sz100 {n : Nat} (h : n ≤ 100000) : n ≤ sizeLine := Nat.le_trans h (by decide)
theorem sz100l {n : Nat} (h : n < 100000) : n < sizeLine := Nat.lt_of_lt_of_le h (by decide)
theorem head_int (ns : List Int) (m : Int) : ∃ z, atI (ns.map V.int ++ [.int m]) 0 = some (.int z) := by
  cases ns with
  | nil => exact ⟨m, rfl⟩
  | cons z r => exact ⟨z, atI_nat (j := 0) rfl⟩
/-! ### the rules over a written part that is named: within a comprehension, too -/
section
variable {X : Cx} {K : PySem.W.Frag}
theorem ix_listK (h : X.K = K := by rfl) : IxR X (rIxL K) := by subst h; exact ix_list
theorem ix_tupK (h : X.K = K := by rfl) : IxR X (rIxT K) := by subst h; exact ix_tup
theorem sl_listK (h : X.K = K := by rfl) : SlR X (rSlL K) := by subst h; exact sl_list
theorem sl_tupK (h : X.K = K := by rfl) : SlR X (rSlT K) := by subst h; exact sl_tup
theorem op_in_seqK (h : X.K = K := by rfl) : OpR X (compareOp .In) (rIn K false) := by subst h; exact op_in_seq
theorem op_notIn_seqK (h : X.K = K := by rfl) : OpR X (compareOp .NotIn) (rIn K true) := by subst h; exact op_notIn_seq
theorem op_eqDK (hu : X.A.units + 64 < cLine) (h : X.K = K := by rfl) : OpR X (compareOp .Eq) (rEqD K) := by subst h; exact op_eqD hu
theorem op_neDK (hu : X.A.units + 64 < cLine) (h : X.K = K := by rfl) : OpR X (compareOp .NotEq) (rNeD K) := by subst h; exact op_neD hu
theorem op_catTK (h : X.K = K := by rfl) : OpR X (binaryOp .Add) (rCatT K) := by subst h; exact op_catT
theorem call_isiK' (h : X.K = K := by rfl) : CallR X (.builtin "isinstance") (rIsi K) := by subst h; exact call_isi
theorem call_isiTK (h : X.K = K := by rfl) : CallR X (.builtin "isinstance") (rIsiT K) := by subst h; exact call_isiT
theorem cr_allK (hc : X.calm = true) (h : X.K = K := by rfl) : CallR X (.builtin "all") (rAll K) := by subst h; exact cr_all hc
theorem cr_anyK (hc : X.calm = true) (h : X.K = K := by rfl) : CallR X (.builtin "any") (rAny K) := by subst h; exact cr_any hc
theorem cr_sumK (hc : X.calm = true) (h : X.K = K := by rfl) : CallR X (.builtin "sum") (rSum K) := by subst h; exact cr_sum hc
theorem pi_listK {tg l : Expr} {tl : TE} (hl : PE X l tl) (h : X.K = K := by rfl) : PI X tg l (iList K tl) := by subst h; exact pi_list hl
theorem pi_tupK {tg l : Expr} {tl : TE} (hl : PE X l tl) (h : X.K = K := by rfl) : PI X tg l (iTup K tl) := by subst h; exact pi_tup hl
theorem pi_reversedK {tg e : Expr} {ta : TA} {p pos : Pos} (hg : Gl X "reversed") (hm : X.mg "reversed" = none) (ha : PA X [e] ta) (hs : starEach [e] X.env = [(false, eval e X.env)] := by rfl) (h : X.K = K := by rfl) : PI X tg (.Call (.Name "reversed" p) [e] [] pos) (iRev K ta) := by subst h; exact pi_reversed hg hm ha hs
theorem pe_bm0K {o : Expr} {to : TE} {name : Str} {apos cpos : Pos} {T id : String} {r : V → List V → Hp → VK → Prop} (pa : PlainAttrs T) (slot : Slot T name id) (hty : typeOf (.builtin id) = pure (.type "method_descriptor")) (hm : MtR X id r) (ho : PE X o to)
    (hbase : attributeBase o name X.env (eval o X.env) = eval o X.env := by rfl) (hline : (apos.endLine == cpos.line) = true := by rfl) (h : X.K = K := by rfl) : PE X (.Call (.Attribute o name apos) [] [] cpos) (tBM0 K T r to) := by subst h; exact pe_bm0 pa slot hty hm ho hbase hline
theorem pe_bmK {o e : Expr} {es : List Expr} {to : TE} {t : TA} {name : Str} {apos cpos : Pos} {T id : String} {r : V → List V → Hp → VK → Prop} (pa : PlainAttrs T) (slot : Slot T name id) (hty : typeOf (.builtin id) = pure (.type "method_descriptor")) (hm : MtR X id r) (ho : PE X o to) (ha : PA X (e :: es) t)
    (hbase : attributeBase o name X.env (eval o X.env) = eval o X.env := by rfl)
    (hfew : ((backTo cpos (starEach (e :: es) X.env)).all (fun x => !x.1) && (backToKw cpos (keywordEach [] X.env)).all (fun x => x.1.isSome)
      && decide ((e :: es).length + ([] : List Keyword).length + (if ([] : List Keyword).isEmpty then 0 else 1) < 30)) = true := by rfl)
    (hline : (apos.endLine == cpos.line) = true := by rfl) (hs : starEach (e :: es) X.env = (false, eval e X.env) :: starEach es X.env := by rfl) (hplain : (backTo cpos (starEach es X.env)).any (·.1) = false := by rfl) (h : X.K = K := by rfl) :
    PE X (.Call (.Attribute o name apos) (e :: es) [] cpos) (tBM K T r to t) := by subst h; exact pe_bm pa slot hty hm ho ha hbase hfew hline hs hplain
theorem mt_indexK (h : X.K = K := by rfl) : MtR X "list.index" (rIndex K) := by subst h; exact mt_index
theorem pi_enumK {e : Expr} {ta : TA} {p pos tpos : Pos} {elts : List Expr} {kk : Nat} (hg : Gl X "enumerate") (hm : X.mg "enumerate" = none) (ha : PA X [e] ta) (hs : starEach [e] X.env = [(false, eval e X.env)] := by rfl) (h : X.K = K := by rfl) :
    PI X (.Tuple elts kk tpos) (.Call (.Name "enumerate" p) [e] [] pos) (iEnum K ta) := by subst h; exact pi_enum hg hm ha hs
theorem pi_zipK {e e2 : Expr} {ta : TA} {p pos tpos : Pos} {elts : List Expr} {kk : Nat} (hg : Gl X "zip") (hm : X.mg "zip" = none) (ha : PA X [e, e2] ta)
    (hs : starEach [e, e2] X.env = (false, eval e X.env) :: starEach [e2] X.env := by rfl) (hpl : (backTo pos (starEach [e2] X.env)).any (·.1) = false := by rfl) (h : X.K = K := by rfl) :
    PI X (.Tuple elts kk tpos) (.Call (.Name "zip" p) [e, e2] [] pos) (iZip K ta) := by subst h; exact pi_zip hg hm ha hs hpl
theorem pe_fldK {e : Expr} {f : Str} {pos : Pos} {ta : TE} (he : PE X e ta) (hb : attributeBase e f X.env (eval e X.env) = eval e X.env) (h : X.K = K := by rfl) : PE X (.Attribute e f pos) (tFld K ta f) := by subst h; exact pe_fld he hb
end

/-! ### ranges of ints of any size, walked -/
theorem turn_long {P : Program} {w : World} {K : PySem.W.Frag} {tg : Expr} (it : Addr) (lo : Int) (n : Nat) : Turn P w K tg (Itr lo n) [it] it (fun i h => IsLongIter h it (lo + (i : Nat) * 1) ((n : Int) - (i : Nat)) 1) where
  mem := by simp
  obj := fun i h st b hb => by
    have e : b = it := by simpa using hb
    subst e
    exact ⟨_, st, fun v z => by
      have z' : Data.fields _ = Data.cell v := z
      cases z'⟩
  keep := fun i h h' st k => k it (by simp) _ st
  item := by
    intro X hP hw hK hc i pins s σ H E I hf st hg
    subst hP hw hK
    obtain ⟨f0, f1, f2, f3, f4, f5⟩ := hf it (by simp)
    have W := Walks.longrange (prog := X.prog) (w := X.w) (I.ok.hd hc) it lo 1 n
    refine W.item i s _ _ hg st fun v h' tk hv st' kk => ?_
    obtain ⟨t, rfl⟩ := hv
    have I1 : Inv X pins σ H { s with heap := h', toks := tk } := I.turned (fun b o hb e => kk b o (by simpa using hb) e) f0 f1 f3 f4 f5
    refine ⟨_, rfl, go_of (s := { s with heap := h', toks := tk }) (n := "longrange_iterator") st' rfl rfl (by decide) ⟨.int (lo + i), H, I1, ⟨t, ?_⟩, ⟨rfl, rfl⟩, st', fun b hb => (hf b hb).1⟩⟩
    rw [Int.mul_one]
  done := by
    intro X hP hw hK hc i pins s σ H E I hf st hg
    subst hP hw hK
    obtain ⟨f0, f1, f2, f3, f4, f5⟩ := hf it (by simp)
    exact wpAny_pyNext_long_end (I.ok.hd hc) st (by have : n ≤ i := hg; omega) fun h' eb => ⟨rfl, I.turned (t' := s.toks) (fun b o hb e => eb b o hb e) f0 f1 f3 f4 f5⟩
  self := fun _ _ _ _ _ st h => wpAny_pyIter_longiter st h
theorem range_itL {X : Cx} {tg : Expr} {pins : List (Addr × Obj)} {σ : L2.St} {H : Hp} {s : Shared} {R : It → Hp → Prop} {E : Value → Shared → Prop} {lo hi : Int} {t u v : Tok} {tk : Nat} (I : Inv X pins σ H s)
    (q : R (Itr lo (hi - lo).toNat) H) : wpAny (model X.prog X.w) X.A (pyIter (.ref s.heap.objs.size)) (PIE X pins σ tg R) E { s with heap := s.heap.push { cls := .type "range", data := .fields #[.int lo t, .int hi u, .int 1 v] }, toks := tk } := by
  have I1 : Inv X pins σ H { s with heap := s.heap.push { cls := .type "range", data := .fields #[.int lo t, .int hi u, .int 1 v] }, toks := tk } := I.kept fun b o e => Heap.get?_push_of_some _ e
  have e1 : lo + ((0 : Nat) : Int) * 1 = lo := by simp
  have e2 : (((hi - lo).toNat : Nat) : Int) - ((0 : Nat) : Int) = Builtin.Range.rangeSize lo hi 1 := by rw [rangeSize_one]; split <;> omega
  cases hs : Builtin.Range.small lo hi 1 with
  | true =>
    refine wpAny_pyIter_range (IsRange.new ..) hs ?_
    refine ⟨(s.heap.push { cls := .type "range", data := .fields #[.int lo t, .int hi u, .int 1 v] }).objs.size, [(s.heap.push { cls := .type "range", data := .fields #[.int lo t, .int hi u, .int 1 v] }).objs.size], _, _, H, rfl,
      I1.kept (t' := tk) fun b o e => Heap.get?_push_of_some _ e, turn_range _ lo (hi - lo).toNat, ?_, fun b hb => ?_, q⟩
    · show IsRangeIter _ _ (lo + ((0 : Nat) : Int) * 1) ((((hi - lo).toNat : Nat) : Int) - ((0 : Nat) : Int)) 1
      rw [e1, e2]
      exact Heap.get?_push_size _ rfl
    · have e : b = (s.heap.push { cls := .type "range", data := .fields #[.int lo t, .int hi u, .int 1 v] }).objs.size := by simpa using hb
      subst e
      exact I1.fpOk (Nat.le_refl _) (I1.hok.fresh (Nat.le_refl _))
  | false =>
    refine wpAny_pyIter_longrange (IsRange.new ..) hs ?_
    refine ⟨(s.heap.push { cls := .type "range", data := .fields #[.int lo t, .int hi u, .int 1 v] }).objs.size, [(s.heap.push { cls := .type "range", data := .fields #[.int lo t, .int hi u, .int 1 v] }).objs.size], _, _, H, rfl,
      I1.kept (t' := tk) fun b o e => Heap.get?_push_of_some _ e, turn_long _ lo (hi - lo).toNat, ?_, fun b hb => ?_, q⟩
    · show IsLongIter _ _ (lo + ((0 : Nat) : Int) * 1) ((((hi - lo).toNat : Nat) : Int) - ((0 : Nat) : Int)) 1
      rw [e1, e2]
      exact Heap.get?_push_size _ rfl
    · have e : b = (s.heap.push { cls := .type "range", data := .fields #[.int lo t, .int hi u, .int 1 v] }).objs.size := by simpa using hb
      subst e
      exact I1.fpOk (Nat.le_refl _) (I1.hok.fresh (Nat.le_refl _))
def iRngL1 (ta : TA) : TI := fun σ H R => ta σ H fun vs H1 => ∃ j : Int, vs = [.int j] ∧ R (Itr 0 j.toNat) H1
def iRngL2 (ta : TA) : TI := fun σ H R => ta σ H fun vs H1 => ∃ i j : Int, vs = [.int i, .int j] ∧ R (Itr i (j - i).toNat) H1
theorem pi_rangeL1 {X : Cx} {tg : Expr} {a : Expr} {ta : TA} {p pos : Pos} (hg : Gl X "range") (hm : X.mg "range" = none) (ha : PA X [a] ta) (hs : starEach [a] X.env = [(false, eval a X.env)] := by rfl) : PI X tg (.Call (.Name "range" p) [a] [] pos) (iRngL1 ta) := by
  refine ⟨fun pins s σ H R I h => ?_⟩
  refine Call_ (ld_blt I hg hm boot_range (PyProof.Rows.callWith_type1 (thn (ha.run pos pins s σ H _ I h) fun us s1 ⟨vs, H1, I1, r1, q1⟩ => ?_) hs rfl))
  obtain ⟨j, e, q⟩ := q1
  subst e
  cases r1 with
  | cons r rr =>
    cases rr
    obtain ⟨t, rfl⟩ := r
    exact call_range_1 (range_itL I1 (by simpa using q))
theorem pi_rangeL2 {X : Cx} {tg : Expr} {a b : Expr} {ta : TA} {p pos : Pos} (hg : Gl X "range") (hm : X.mg "range" = none) (ha : PA X [a, b] ta) (hs : starEach [a, b] X.env = [(false, eval a X.env), (false, eval b X.env)] := by rfl) (hs2 : starEach [b] X.env = [(false, eval b X.env)] := by rfl) :
    PI X tg (.Call (.Name "range" p) [a, b] [] pos) (iRngL2 ta) := by
  refine ⟨fun pins s σ H R I h => ?_⟩
  refine Call_ (ld_blt I hg hm boot_range (PyProof.Rows.callWith_type1 (thn (ha.run pos pins s σ H _ I h) fun us s1 ⟨vs, H1, I1, r1, q1⟩ => ?_) (by rw [hs, hs2]) (by rw [hs2]; rfl)))
  obtain ⟨i, j, e, q⟩ := q1
  subst e
  cases r1 with
  | cons r rr =>
    cases rr with
    | cons r' rr =>
      cases rr
      obtain ⟨t, rfl⟩ := r
      obtain ⟨t', rfl⟩ := r'
      exact call_range_2 (range_itL I1 q)
/-! ### loops by an invariant -/
theorem Loop.list {K : PySem.W.Frag} {a : Addr} {xs : List V} {g : TG} {tb : TS} {D : Ends} {σ : L2.St} {H : Hp} (Pv : Nat → L2.St → Hp → Prop) (h0 : Pv 0 σ H) (hl : ∀ i σ H, i ≤ xs.length → Pv i σ H → SqL K H a xs)
    (hs : ∀ i x σ H, xs[i]? = some x → Pv i σ H → g x σ H fun σ2 H2 => tb { D with nx := Pv (i + 1), ct := Pv (i + 1), bk := D.nx } σ2 H2) (hd : ∀ σ H, Pv xs.length σ H → D.nx σ H) : Loop (Itl K a) g tb D σ H := for_list Pv h0 hl hs hd
theorem Loop.tup {K : PySem.W.Frag} {a : Addr} {xs : List V} {g : TG} {tb : TS} {D : Ends} {σ : L2.St} {H : Hp} (Pv : Nat → L2.St → Hp → Prop) (h0 : Pv 0 σ H) (hl : ∀ i σ H, i ≤ xs.length → Pv i σ H → SqT K H a xs)
    (hs : ∀ i x σ H, xs[i]? = some x → Pv i σ H → g x σ H fun σ2 H2 => tb { D with nx := Pv (i + 1), ct := Pv (i + 1), bk := D.nx } σ2 H2) (hd : ∀ σ H, Pv xs.length σ H → D.nx σ H) : Loop (Itt K a) g tb D σ H := for_tup Pv h0 hl hs hd
theorem Loop.range {lo : Int} {n : Nat} {g : TG} {tb : TS} {D : Ends} {σ : L2.St} {H : Hp} (Pv : Nat → L2.St → Hp → Prop) (h0 : Pv 0 σ H)
    (hs : ∀ i σ H, i < n → Pv i σ H → g (.int (lo + i)) σ H fun σ2 H2 => tb { D with nx := Pv (i + 1), ct := Pv (i + 1), bk := D.nx } σ2 H2) (hd : ∀ σ H, Pv n σ H → D.nx σ H) : Loop (Itr lo n) g tb D σ H := for_range Pv h0 hs hd
theorem Loop.rev {K : PySem.W.Frag} {a : Addr} {xs : List V} {n : Nat} {g : TG} {tb : TS} {D : Ends} {σ : L2.St} {H : Hp} (hn : n = xs.length) (Pv : Nat → L2.St → Hp → Prop) (h0 : Pv 0 σ H) (hl : ∀ i σ H, i ≤ xs.length → Pv i σ H → SqL K H a xs)
    (hs : ∀ i x σ H, xs[xs.length - 1 - i]? = some x → i < xs.length → Pv i σ H → g x σ H fun σ2 H2 => tb { D with nx := Pv (i + 1), ct := Pv (i + 1), bk := D.nx } σ2 H2) (hd : ∀ σ H, Pv xs.length σ H → D.nx σ H) : Loop (Itv K a n) g tb D σ H := by
  subst hn
  refine ⟨fun i m σ H => m = xs.length - i ∧ i ≤ xs.length ∧ Pv i σ H, ⟨xs.length, by simp, Nat.zero_le _, h0⟩, ?_⟩
  rintro i m σ H ⟨rfl, hi, p⟩
  have q := hl i σ H hi p
  by_cases hlt : i < xs.length
  · have hx : xs.length - 1 - i < xs.length := by omega
    refine .inr ⟨⟨hlt, xs, xs[xs.length - 1 - i], q, by simp [hx]⟩, Pv (i + 1), fun σ' H' p' => ⟨xs.length - (i + 1), by omega, rfl, hlt, p'⟩, fun x H' y => ?_⟩
    obtain ⟨e, y⟩ := y
    subst e
    exact hs i x σ _ (y xs q) hlt p
  · have e : i = xs.length := by omega
    subst e
    exact .inl ⟨Nat.le_refl _, hd σ H p⟩
theorem Loop.enum {K : PySem.W.Frag} {a : Addr} {xs : List V} {g : TG} {tb : TS} {D : Ends} {σ : L2.St} {H : Hp} (Pv : Nat → L2.St → Hp → Prop) (h0 : Pv 0 σ H) (hl : ∀ i σ H, i ≤ xs.length → Pv i σ H → SqL K H a xs)
    (hs : ∀ i x σ H T H1, xs[i]? = some x → Pv i σ H → H T = none → Same H H1 → H1 T = some (.tup [.int (i : Nat), x]) → g (.ref T) σ H1 fun σ2 H2 => tb { D with nx := Pv (i + 1), ct := Pv (i + 1), bk := D.nx } σ2 H2) (hd : ∀ σ H, Pv xs.length σ H → D.nx σ H) : Loop (Ite K a) g tb D σ H := by
  refine ⟨fun i m σ H => m = xs.length - i ∧ i ≤ xs.length ∧ Pv i σ H, ⟨xs.length, by simp, Nat.zero_le _, h0⟩, ?_⟩
  rintro i m σ H ⟨rfl, hi, p⟩
  have q := hl i σ H hi p
  by_cases hlt : i < xs.length
  · refine .inr ⟨⟨xs, xs[i], q, by simp [hlt]⟩, Pv (i + 1), fun σ' H' p' => ⟨xs.length - (i + 1), by omega, rfl, hlt, p'⟩, fun v H' y => ?_⟩
    obtain ⟨T, x, rfl, nT, rfl, f⟩ := y
    exact hs i x σ H T _ (f xs q) p nT (same_new nT) upd_same
  · have e : i = xs.length := by omega
    subst e
    exact .inl ⟨⟨xs, q, Nat.le_refl _⟩, hd σ H p⟩
theorem Loop.zip {K : PySem.W.Frag} {a b : Addr} {xs ys : List V} {g : TG} {tb : TS} {D : Ends} {σ : L2.St} {H : Hp} (hn : xs.length = ys.length) (Pv : Nat → L2.St → Hp → Prop) (h0 : Pv 0 σ H) (hl : ∀ i σ H, i ≤ xs.length → Pv i σ H → SqL K H a xs ∧ SqL K H b ys)
    (hs : ∀ i x y σ H T H1, xs[i]? = some x → ys[i]? = some y → Pv i σ H → H T = none → Same H H1 → H1 T = some (.tup [x, y]) → g (.ref T) σ H1 fun σ2 H2 => tb { D with nx := Pv (i + 1), ct := Pv (i + 1), bk := D.nx } σ2 H2) (hd : ∀ σ H, Pv xs.length σ H → D.nx σ H) : Loop (Itz K a b) g tb D σ H := by
  refine ⟨fun i m σ H => m = xs.length - i ∧ i ≤ xs.length ∧ Pv i σ H, ⟨xs.length, by simp, Nat.zero_le _, h0⟩, ?_⟩
  rintro i m σ H ⟨rfl, hi, p⟩
  have q := hl i σ H hi p
  by_cases hlt : i < xs.length
  · refine .inr ⟨⟨xs, ys, xs[i], ys[i]'(by omega), q.1, q.2, by simp [hlt], by simp [show i < ys.length by omega]⟩, Pv (i + 1), fun σ' H' p' => ⟨xs.length - (i + 1), by omega, rfl, hlt, p'⟩, fun v H' y => ?_⟩
    obtain ⟨T, x, y, rfl, nT, rfl, f1, f2⟩ := y
    exact hs i x y σ H T _ (f1 xs q.1) (f2 ys q.2) p nT (same_new nT) upd_same
  · have e : i = xs.length := by omega
    subst e
    exact .inl ⟨⟨xs, ys, q.1, q.2, .inl (Nat.le_refl _)⟩, hd σ H p⟩
theorem Loop.str {z : Str} {g : TG} {tb : TS} {D : Ends} {σ : L2.St} {H : Hp} (Pv : Nat → L2.St → Hp → Prop) (h0 : Pv 0 σ H)
    (hs : ∀ i c σ H, z.cps[i]? = some c → Pv i σ H → g (.str ⟨#[c]⟩) σ H fun σ2 H2 => tb { D with nx := Pv (i + 1), ct := Pv (i + 1), bk := D.nx } σ2 H2) (hd : ∀ σ H, Pv z.cps.size σ H → D.nx σ H) : Loop (Its z) g tb D σ H := by
  refine ⟨fun i m σ H => m = z.cps.size - i ∧ i ≤ z.cps.size ∧ Pv i σ H, ⟨z.cps.size, by simp, Nat.zero_le _, h0⟩, ?_⟩
  rintro i m σ H ⟨rfl, hi, p⟩
  by_cases hlt : i < z.cps.size
  · refine .inr ⟨hlt, Pv (i + 1), fun σ' H' p' => ⟨z.cps.size - (i + 1), by omega, rfl, hlt, p'⟩, fun x H' y => ?_⟩
    obtain ⟨e, c, hc, ex⟩ := y
    subst e ex
    exact hs i c σ _ hc p
  · have e : i = z.cps.size := by omega
    subst e
    exact .inl ⟨Nat.le_refl _, hd σ H p⟩

theorem int_at {ns : List Int} {i : Nat} {x : V} (h : (ns.map V.int)[i]? = some x) : ∃ z, ns[i]? = some z ∧ x = .int z := by
  rw [List.getElem?_map] at h
  cases e : ns[i]? with
  | none =>
    rw [e] at h
    cases h
  | some z =>
    rw [e] at h
    exact ⟨z, rfl, (Option.some.inj h).symm⟩
theorem at_int {ns : List Int} {i : Nat} {z : Int} (h : ns[i]? = some z) : (ns.map V.int)[i]? = some (.int z) := by
  rw [List.getElem?_map, h]
  rfl
theorem take_snoc {α : Type} {l : List α} {i : Nat} {x : α} (h : l[i]? = some x) : l.take (i + 1) = l.take i ++ [x] := by
  rw [List.take_add_one, h]
  rfl
theorem drop_at {α : Type} {l : List α} {i : Nat} {x : α} (h : l[i]? = some x) : l.drop i = x :: l.drop (i + 1) := by
  obtain ⟨hi, e⟩ := List.getElem?_eq_some_iff.mp h
  rw [List.drop_eq_getElem_cons hi, e]
theorem iteN {c A B : Prop} [Decidable c] (hc : ¬ c) (h : B) : if c then A else B := by
  rw [if_neg hc]
  exact h
theorem iteP {c A B : Prop} [Decidable c] (hc : c) (h : A) : if c then A else B := by
  rw [if_pos hc]
  exact h
/-! ### comprehensions -/
/-- what is made so far stands at D; the source stands; an element may change what it likes but D -/
theorem Cmp.list {K : PySem.W.Frag} {a : Addr} {xs : List V} {g : TG} {tt : TT} {te : TE} {vs : List Nat} {σ : L2.St} {H1 : Hp} {Q : VK} (Pv : Addr → Nat → List V → Hp → Prop)
    (h0 : ∀ D H2, H1 D = none → Same H1 H2 → H2 D = some (.lst []) → Pv D 0 [] H2) (hl : ∀ D i acc H, i ≤ xs.length → Pv D i acc H → SqL K H a xs)
    (hs : ∀ D i x acc H (Nx : Hp → Prop), xs[i]? = some x → acc.length ≤ i → Pv D i acc H → (∀ acc' H', acc'.length ≤ i + 1 → Pv D (i + 1) acc' H' → Nx H') → g x (wipe σ vs) H fun σ2 H2 => wipe σ2 vs = wipe σ vs ∧ tt σ2 H2 fun b H3 =>
      if b = true then te σ2 H3 fun y H4 => ∃ acc, H4 D = some (.lst acc) ∧ acc.length < sizeLine ∧ Nx (upd H4 D (.lst (acc ++ [y]))) else Nx H3) (hd : ∀ D acc H, acc.length ≤ xs.length → Pv D xs.length acc H → Q (.ref D) H) : Cmp (Itl K a) g tt te vs σ H1 Q := fun D nD =>
  lc_list (K := K) (a := a) (xs := xs) (fun i H => ∃ acc, acc.length ≤ i ∧ Pv D i acc H) ⟨[], Nat.zero_le _, h0 D _ nD (same_new nD) upd_same⟩ (fun i H hi ⟨acc, _, p⟩ => hl D i acc H hi p)
    (fun i x H hx ⟨acc, ha, p⟩ => hs D i x acc H _ hx ha p fun acc' H' h1 h2 => ⟨acc', h1, h2⟩) (fun H ⟨acc, ha, p⟩ => hd D acc H ha p)
theorem Cmp.tup {K : PySem.W.Frag} {a : Addr} {xs : List V} {g : TG} {tt : TT} {te : TE} {vs : List Nat} {σ : L2.St} {H1 : Hp} {Q : VK} (Pv : Addr → Nat → List V → Hp → Prop)
    (h0 : ∀ D H2, H1 D = none → Same H1 H2 → H2 D = some (.lst []) → Pv D 0 [] H2) (hl : ∀ D i acc H, i ≤ xs.length → Pv D i acc H → SqT K H a xs)
    (hs : ∀ D i x acc H (Nx : Hp → Prop), xs[i]? = some x → acc.length ≤ i → Pv D i acc H → (∀ acc' H', acc'.length ≤ i + 1 → Pv D (i + 1) acc' H' → Nx H') → g x (wipe σ vs) H fun σ2 H2 => wipe σ2 vs = wipe σ vs ∧ tt σ2 H2 fun b H3 =>
      if b = true then te σ2 H3 fun y H4 => ∃ acc, H4 D = some (.lst acc) ∧ acc.length < sizeLine ∧ Nx (upd H4 D (.lst (acc ++ [y]))) else Nx H3) (hd : ∀ D acc H, acc.length ≤ xs.length → Pv D xs.length acc H → Q (.ref D) H) : Cmp (Itt K a) g tt te vs σ H1 Q := fun D nD =>
  lc_tup (K := K) (a := a) (xs := xs) (fun i H => ∃ acc, acc.length ≤ i ∧ Pv D i acc H) ⟨[], Nat.zero_le _, h0 D _ nD (same_new nD) upd_same⟩ (fun i H hi ⟨acc, _, p⟩ => hl D i acc H hi p)
    (fun i x H hx ⟨acc, ha, p⟩ => hs D i x acc H _ hx ha p fun acc' H' h1 h2 => ⟨acc', h1, h2⟩) (fun H ⟨acc, ha, p⟩ => hd D acc H ha p)
theorem Cmp.range {lo : Int} {n : Nat} {g : TG} {tt : TT} {te : TE} {vs : List Nat} {σ : L2.St} {H1 : Hp} {Q : VK} (Pv : Addr → Nat → List V → Hp → Prop)
    (h0 : ∀ D H2, H1 D = none → Same H1 H2 → H2 D = some (.lst []) → Pv D 0 [] H2)
    (hs : ∀ D i acc H (Nx : Hp → Prop), i < n → acc.length ≤ i → Pv D i acc H → (∀ acc' H', acc'.length ≤ i + 1 → Pv D (i + 1) acc' H' → Nx H') → g (.int (lo + i)) (wipe σ vs) H fun σ2 H2 => wipe σ2 vs = wipe σ vs ∧ tt σ2 H2 fun b H3 =>
      if b = true then te σ2 H3 fun y H4 => ∃ acc, H4 D = some (.lst acc) ∧ acc.length < sizeLine ∧ Nx (upd H4 D (.lst (acc ++ [y]))) else Nx H3) (hd : ∀ D acc H, acc.length ≤ n → Pv D n acc H → Q (.ref D) H) : Cmp (Itr lo n) g tt te vs σ H1 Q := fun D nD =>
  lc_range (lo := lo) (n := n) (fun i H => ∃ acc, acc.length ≤ i ∧ Pv D i acc H) ⟨[], Nat.zero_le _, h0 D _ nD (same_new nD) upd_same⟩
    (fun i H hx ⟨acc, ha, p⟩ => hs D i acc H _ hx ha p fun acc' H' h1 h2 => ⟨acc', h1, h2⟩) (fun H ⟨acc, ha, p⟩ => hd D acc H ha p)
theorem push {D : Addr} {i : Nat} {acc : List V} {y : V} {H4 : Hp} {Nx : Hp → Prop} {PV : List V → Hp → Prop} (hN : ∀ acc' H', acc'.length ≤ i + 1 → PV acc' H' → Nx H') (ha : acc.length ≤ i) (h : H4 D = some (.lst acc)) (hi : i < 1000000)
    (hp : ∀ H5, Off D H4 H5 → H5 D = some (.lst (acc ++ [y])) → PV (acc ++ [y]) H5) : ∃ acc, H4 D = some (.lst acc) ∧ acc.length < sizeLine ∧ Nx (upd H4 D (.lst (acc ++ [y]))) :=
  ⟨acc, h, Nat.lt_of_lt_of_le (Nat.lt_of_le_of_lt ha hi) (by decide), hN _ _ (by rw [List.length_append]; exact Nat.succ_le_succ ha) (hp _ Off.upd upd_same)⟩
/-- elements that change nothing, over a list; with a test -/
theorem Cmp.pureF {K : PySem.W.Frag} {a : Addr} {xs : List V} {j : Nat} {tt : TT} {te : TE} {vs : List Nat} {σ : L2.St} {H1 : Hp} {Q : VK} (p : V → Bool) (f : V → V) (hS : SqL K H1 a xs) (hz : xs.length ≤ 100000) (hw : ∀ x, wipe ((wipe σ vs).set j (some x)) vs = wipe σ vs)
    (ht : ∀ x H2 (R : Bool → Hp → Prop), x ∈ xs → Same H1 H2 → (∀ H3, Same H2 H3 → R (p x) H3) → tt ((wipe σ vs).set j (some x)) H2 R)
    (he : ∀ x H2 (R : VK), x ∈ xs → p x = true → Same H1 H2 → (∀ H3, Same H2 H3 → R (f x) H3) → te ((wipe σ vs).set j (some x)) H2 R)
    (hd : ∀ l H2, H1 l = none → Same H1 H2 → H2 l = some (.lst ((xs.filter p).map f)) → Q (.ref l) H2) : Cmp (Itl K a) (gName j) tt te vs σ H1 Q := by
  refine Cmp.list (xs := xs) (fun D i acc H => H1 D = none ∧ Same H1 H ∧ H D = some (.lst acc) ∧ acc = ((xs.take i).filter p).map f) (fun D H2 nD s2 h2 => ⟨nD, s2, h2, by simp⟩) (fun D i acc H _ ⟨_, s2, _⟩ => s2.seq hS) ?_ ?_
  · rintro D i x acc H Nx hx ha ⟨nD, s2, h2, ea⟩ hN
    have hi : i < xs.length := (List.getElem?_eq_some_iff.mp hx).1
    have hm := List.mem_of_getElem? hx
    refine ⟨hw x, ht x H _ hm s2 fun H3 s3 => ?_⟩
    cases hp : p x with
    | true =>
      rw [if_pos rfl]
      refine he x H3 _ hm hp (s2.trans s3) fun H4 s4 => push hN ha (s4 _ _ (s3 _ _ h2)) (by omega) fun H5 o5 h5 => ⟨nD, Same.off ((s2.trans s3).trans s4) nD o5, h5, ?_⟩
      rw [ea, take_snoc hx, List.filter_append, List.map_append]
      simp [hp]
    | false =>
      rw [if_neg Bool.false_ne_true]
      refine hN acc H3 (Nat.le_succ_of_le ha) ⟨nD, s2.trans s3, s3 _ _ h2, ?_⟩
      rw [ea, take_snoc hx, List.filter_append, List.map_append]
      simp [hp]
  · rintro D acc H _ ⟨nD, s2, h2, ea⟩
    rw [List.take_length] at ea
    exact hd D H nD s2 (ea ▸ h2)
theorem Cmp.pureL {K : PySem.W.Frag} {a : Addr} {xs : List V} {j : Nat} {te : TE} {vs : List Nat} {σ : L2.St} {H1 : Hp} {Q : VK} (f : V → V) (hS : SqL K H1 a xs) (hz : xs.length ≤ 100000) (hw : ∀ x, wipe ((wipe σ vs).set j (some x)) vs = wipe σ vs)
    (he : ∀ x H2 (R : VK), x ∈ xs → Same H1 H2 → (∀ H3, Same H2 H3 → R (f x) H3) → te ((wipe σ vs).set j (some x)) H2 R)
    (hd : ∀ l H2, H1 l = none → Same H1 H2 → H2 l = some (.lst (xs.map f)) → Q (.ref l) H2) : Cmp (Itl K a) (gName j) tYes te vs σ H1 Q :=
  Cmp.pureF (fun _ => true) f hS hz hw (fun x H2 R _ _ h => h H2 (Same.refl H2)) (fun x H2 R hm _ => he x H2 R hm) fun l H2 n s h => hd l H2 n s (by rw [List.filter_eq_self.mpr (fun _ _ => rfl)] at h; exact h)
theorem Cmp.pureRF {lo : Int} {n : Nat} {j : Nat} {tt : TT} {te : TE} {vs : List Nat} {σ : L2.St} {H1 : Hp} {Q : VK} (p : Nat → Bool) (f : Nat → V) (hz : n ≤ 100000) (hw : ∀ x, wipe ((wipe σ vs).set j (some x)) vs = wipe σ vs)
    (ht : ∀ i H2 (R : Bool → Hp → Prop), i < n → Same H1 H2 → (∀ H3, Same H2 H3 → R (p i) H3) → tt ((wipe σ vs).set j (some (.int (lo + (i : Int))))) H2 R)
    (he : ∀ i H2 (R : VK), i < n → p i = true → Same H1 H2 → (∀ H3, Same H2 H3 → R (f i) H3) → te ((wipe σ vs).set j (some (.int (lo + (i : Int))))) H2 R)
    (hd : ∀ l H2, H1 l = none → Same H1 H2 → H2 l = some (.lst (((List.range n).filter p).map f)) → Q (.ref l) H2) : Cmp (Itr lo n) (gName j) tt te vs σ H1 Q := by
  refine Cmp.range (fun D i acc H => H1 D = none ∧ Same H1 H ∧ H D = some (.lst acc) ∧ acc = ((List.range i).filter p).map f) (fun D H2 nD s2 h2 => ⟨nD, s2, h2, by simp⟩) ?_ ?_
  · rintro D i acc H Nx hi ha ⟨nD, s2, h2, ea⟩ hN
    refine ⟨hw _, ht i H _ hi s2 fun H3 s3 => ?_⟩
    cases hp : p i with
    | true =>
      rw [if_pos rfl]
      refine he i H3 _ hi hp (s2.trans s3) fun H4 s4 => push hN ha (s4 _ _ (s3 _ _ h2)) (by omega) fun H5 o5 h5 => ⟨nD, Same.off ((s2.trans s3).trans s4) nD o5, h5, ?_⟩
      rw [ea, List.range_succ, List.filter_append, List.map_append]
      simp [hp]
    | false =>
      rw [if_neg Bool.false_ne_true]
      refine hN acc H3 (Nat.le_succ_of_le ha) ⟨nD, s2.trans s3, s3 _ _ h2, ?_⟩
      rw [ea, List.range_succ, List.filter_append, List.map_append]
      simp [hp]
  · rintro D acc H _ ⟨nD, s2, h2, ea⟩
    exact hd D H nD s2 (ea ▸ h2)
theorem Cmp.pureR {lo : Int} {n : Nat} {j : Nat} {te : TE} {vs : List Nat} {σ : L2.St} {H1 : Hp} {Q : VK} (f : Nat → V) (hz : n ≤ 100000) (hw : ∀ x, wipe ((wipe σ vs).set j (some x)) vs = wipe σ vs)
    (he : ∀ i H2 (R : VK), i < n → Same H1 H2 → (∀ H3, Same H2 H3 → R (f i) H3) → te ((wipe σ vs).set j (some (.int (lo + (i : Int))))) H2 R)
    (hd : ∀ l H2, H1 l = none → Same H1 H2 → H2 l = some (.lst ((List.range n).map f)) → Q (.ref l) H2) : Cmp (Itr lo n) (gName j) tYes te vs σ H1 Q :=
  Cmp.pureRF (fun _ => true) f hz hw (fun x H2 R _ _ h => h H2 (Same.refl H2)) (fun x H2 R hm _ => he x H2 R hm) fun l H2 n s h => hd l H2 n s (by rw [List.filter_eq_self.mpr (fun _ _ => rfl)] at h; exact h)

theorem sq_true {K : PySem.W.Frag} {H : Hp} {l : Addr} {α : Type} {ys : List α} (h : H l = some (.lst (ys.map fun _ => V.bl true))) : SqL K H l ((ys.map fun _ => true).map V.bl) := by
  rw [List.map_map]
  exact seq_of h
theorem all_true {α : Type} : ∀ ys : List α, (ys.map fun _ => true).all id = true
  | [] => rfl
  | _ :: r => all_true r
theorem cut_to (xs : List V) (j : Nat) : cutV xs none (some (j : Int)) = xs.take j := by
  unfold cutV
  rw [HT.sIx_none, HT.sIx_nat, List.drop_zero, Nat.sub_zero]
  by_cases h : j ≤ xs.length
  · rw [Nat.min_eq_left h]
  · rw [Nat.min_eq_right (by omega), List.take_of_length_le (Nat.le_refl _), List.take_of_length_le (by omega)]
theorem cut_from (xs : List V) (j : Nat) : cutV xs (some (j : Int)) none = xs.drop j := by
  unfold cutV
  rw [HT.sIx_none, HT.sIx_nat]
  by_cases h : j ≤ xs.length
  · rw [Nat.min_eq_left h, List.take_of_length_le (by rw [List.length_drop]; omega)]
  · rw [Nat.min_eq_right (by omega), List.drop_eq_nil_of_le (Nat.le_refl _), List.drop_eq_nil_of_le (by omega), List.take_nil]

/-! ### data -/
def pd : V → PyData
  | .bl b => .bool b
  | .int i => .int i
  | .str x => .str x
  | _ => .none
def isPd : V → Bool
  | .bl _ => true
  | .int _ => true
  | .str x => PyData.strOk x
  | .non => true
  | _ => false
theorem dp_pd {K : PySem.W.Frag} {H : Hp} : ∀ {x : V}, isPd x = true → Dp K H x (pd x)
  | .non, _ => .non
  | .bl b, _ => .bl b
  | .int i, _ => .int i
  | .str x, _ => .str x
theorem dpAll_pd {K : PySem.W.Frag} {H : Hp} : ∀ {xs : List V}, xs.all isPd = true → DpAll K H xs (xs.map pd)
  | [], _ => .nil
  | x :: xs, h => by
    rw [List.all_cons, Bool.and_eq_true] at h
    exact .cons (dp_pd h.1) (dpAll_pd h.2)
theorem ints_pd : ∀ ns : List Int, (ns.map V.int).all isPd = true
  | [] => rfl
  | _ :: r => ints_pd r
theorem dp_lst {K : PySem.W.Frag} {H : Hp} {a : Addr} {xs : List V} (h : SqL K H a xs) (hx : xs.all isPd = true) : Dp K H (.ref a) (.list (xs.map pd)) := .lst h (dpAll_pd hx)
theorem dp_tup {K : PySem.W.Frag} {H : Hp} {a : Addr} {xs : List V} (h : SqT K H a xs) (hx : xs.all isPd = true) : Dp K H (.ref a) (.tuple (xs.map pd)) := .tup h (dpAll_pd hx)
theorem pd_lay : ∀ {x : V}, isPd x = true → (pd x).canLay0 = true
  | .non, _ => rfl
  | .bl _, _ => rfl
  | .int _, _ => rfl
  | .str x, h => h
theorem pd_layAll : ∀ {xs : List V}, xs.all isPd = true → PyData.canLayAll0 (xs.map pd) = true
  | [], _ => rfl
  | x :: xs, h => by
    rw [List.all_cons, Bool.and_eq_true] at h
    show ((pd x).canLay0 && PyData.canLayAll0 (xs.map pd)) = true
    rw [pd_lay h.1, pd_layAll h.2]
    rfl
theorem pd_depth : ∀ x : V, (pd x).depth = 0
  | .non => rfl
  | .bl _ => rfl
  | .int _ => rfl
  | .str _ => rfl
  | .byt _ => rfl
  | .flt _ => rfl
  | .ref _ => rfl
  | .ty _ => rfl

theorem pd_depthAll : ∀ xs : List V, PyData.depthAll (xs.map pd) = 0
  | [] => rfl
  | x :: xs => by
    show max (pd x).depth (PyData.depthAll (xs.map pd)) = 0
    rw [pd_depth, pd_depthAll]
    rfl
theorem shaped_lst {xs : List V} (h : xs.all isPd = true) : SeqAt.shaped (.list (xs.map pd)) = true := by
  have e : (PyData.list (xs.map pd)).depth = 1 := by
    show PyData.depthAll (xs.map pd) + 1 = 1
    rw [pd_depthAll]
  show ((PyData.canLayAll0 (xs.map pd)) && decide ((PyData.list (xs.map pd)).depth ≤ 64)) = true
  rw [pd_layAll h, e]
  rfl
theorem shaped_tup {xs : List V} (h : xs.all isPd = true) : SeqAt.shaped (.tuple (xs.map pd)) = true := by
  have e : (PyData.tuple (xs.map pd)).depth = 1 := by
    show PyData.depthAll (xs.map pd) + 1 = 1
    rw [pd_depthAll]
  show ((PyData.canLayAll0 (xs.map pd)) && decide ((PyData.tuple (xs.map pd)).depth ≤ 64)) = true
  rw [pd_layAll h, e]
  rfl
theorem eqvAll_ints : ∀ ns ms : List Int, PyData.eqvAll ((ns.map V.int).map pd) ((ms.map V.int).map pd) = decide (ns = ms)
  | [], [] => rfl
  | [], _ :: _ => rfl
  | _ :: _, [] => rfl
  | a :: r, b :: t => by
    show ((a == b) && PyData.eqvAll ((r.map V.int).map pd) ((t.map V.int).map pd)) = decide (a :: r = b :: t)
    rw [eqvAll_ints r t]
    by_cases h : a = b
    · subst h
      simp
    · simp [h]
theorem eqv_ints (ns ms : List Int) : PyData.eqv (.list ((ns.map V.int).map pd)) (.list ((ms.map V.int).map pd)) = decide (ns = ms) := eqvAll_ints ns ms
/-- == of two lists of ints -/
theorem eq_ints {K : PySem.W.Frag} {H : Hp} {a b : Addr} {ns ms : List Int} {Q : VK} (ha : SqL K H a (ns.map V.int)) (hb : SqL K H b (ms.map V.int)) (q : Q (.bl (decide (ns = ms))) H) : rEqD K (.ref a) (.ref b) H Q :=
  ⟨_, _, dp_lst ha (ints_pd ns), dp_lst hb (ints_pd ms), shaped_lst (ints_pd ns), shaped_lst (ints_pd ms), by rw [eqv_ints]; exact q⟩
theorem ne_ints {K : PySem.W.Frag} {H : Hp} {a b : Addr} {ns ms : List Int} {Q : VK} (ha : SqL K H a (ns.map V.int)) (hb : SqL K H b (ms.map V.int)) (q : Q (.bl (!decide (ns = ms))) H) : rNeD K (.ref a) (.ref b) H Q :=
  ⟨_, _, dp_lst ha (ints_pd ns), dp_lst hb (ints_pd ms), shaped_lst (ints_pd ns), shaped_lst (ints_pd ms), by rw [eqv_ints]; exact q⟩
/-- == of equal data -/
theorem eq_tups {K : PySem.W.Frag} {H : Hp} {a b : Addr} {xs : List V} {Q : VK} (ha : SqT K H a xs) (hb : SqT K H b xs) (hx : xs.all isPd = true) (q : Q (.bl true) H) : rEqD K (.ref a) (.ref b) H Q :=
  ⟨_, _, dp_tup ha hx, dp_tup hb hx, shaped_tup hx, shaped_tup hx, by rw [SeqAt.eqv_refl (.tuple (xs.map pd)) (show PyData.canLayAll0 (xs.map pd) = true from pd_layAll hx)]; exact q⟩

/-- the type of a list, of a tuple, of an int that is told -/
theorem tyv_list {K : PySem.W.Frag} {H : Hp} {a : Addr} {xs : List V} (h : SqL K H a xs) : tyV K "list" (.ref a) H := .inl ⟨rfl, _, h⟩
theorem ty_int {K : PySem.W.Frag} {H : Hp} {i : Int} : TyX K H (.int i) (.type "int") := .base (.int i)
theorem ty_lst {K : PySem.W.Frag} {H : Hp} {a : Addr} {xs : List V} (h : H a = some (.lst xs)) : TyX K H (.ref a) (.type "list") := .base (.lst h)
theorem ty_tup {K : PySem.W.Frag} {H : Hp} {a : Addr} {xs : List V} (h : H a = some (.tup xs)) : TyX K H (.ref a) (.type "tuple") := .base (.tup h)

theorem scal_ii {i j : Int} : scal (.int i) (.int j) = true := rfl
theorem scal_bb {i j : Bool} : scal (.bl i) (.bl j) = true := rfl
theorem scal_ss {i j : Str} : scal (.str i) (.str j) = true := rfl
theorem scal_nn : scal .non .non = true := rfl
theorem scal_ni {j : Int} : scal .non (.int j) = true := rfl
theorem scal_in {j : Int} : scal (.int j) .non = true := rfl
theorem scal_ns {j : Str} : scal .non (.str j) = true := rfl
theorem scal_sn {j : Str} : scal (.str j) .non = true := rfl
theorem scal_is {i : Int} {j : Str} : scal (.int i) (.str j) = true := rfl
theorem scal_si {i : Int} {j : Str} : scal (.str j) (.int i) = true := rfl

/-! == of lists of tuples -/
def pdT (d : List V) : PyData := .tuple (d.map pd)
theorem dp_tups {K : PySem.W.Frag} {H : Hp} : ∀ {xs : List V} {ds : List (List V)}, Tups K H xs ds → (∀ d ∈ ds, d.all isPd = true) → DpAll K H xs (ds.map pdT)
  | _, _, .nil, _ => .nil
  | _, _, .cons (b := d) ⟨a, e, h⟩ t, hd => by
    subst e
    exact .cons (dp_tup h (hd d List.mem_cons_self)) (dp_tups t fun d h => hd d (List.mem_cons_of_mem _ h))
theorem lay_tups : ∀ {ds : List (List V)}, (∀ d ∈ ds, d.all isPd = true) → PyData.canLayAll0 (ds.map pdT) = true
  | [], _ => rfl
  | d :: r, h => by
    show (PyData.canLayAll0 (d.map pd) && PyData.canLayAll0 (r.map pdT)) = true
    rw [pd_layAll (h d List.mem_cons_self), lay_tups fun d hd => h d (List.mem_cons_of_mem _ hd)]
    rfl
theorem depth_tups : ∀ ds : List (List V), PyData.depthAll (ds.map pdT) ≤ 1
  | [] => by show 0 ≤ 1; decide
  | d :: r => by
    show max (PyData.depthAll (d.map pd) + 1) (PyData.depthAll (r.map pdT)) ≤ 1
    rw [pd_depthAll]
    have := depth_tups r
    omega
theorem shaped_tups {ds : List (List V)} (h : ∀ d ∈ ds, d.all isPd = true) : SeqAt.shaped (.list (ds.map pdT)) = true := by
  have e : (PyData.list (ds.map pdT)).depth ≤ 64 := by
    show PyData.depthAll (ds.map pdT) + 1 ≤ 64
    have := depth_tups ds
    omega
  show ((PyData.canLayAll0 (ds.map pdT)) && decide ((PyData.list (ds.map pdT)).depth ≤ 64)) = true
  rw [lay_tups h, decide_eq_true e]
  rfl
theorem eqv_tups {ds : List (List V)} (h : ∀ d ∈ ds, d.all isPd = true) : PyData.eqv (.list (ds.map pdT)) (.list (ds.map pdT)) = true := SeqAt.eqv_refl (.list (ds.map pdT)) (show PyData.canLayAll0 (ds.map pdT) = true from lay_tups h)
theorem eq_tupsL {K : PySem.W.Frag} {H : Hp} {a b : Addr} {xs ys : List V} {ds : List (List V)} {Q : VK} (ha : SqL K H a xs) (hb : SqL K H b ys) (t : Tups K H xs ds) (u : Tups K H ys ds) (hd : ∀ d ∈ ds, d.all isPd = true) (q : Q (.bl true) H) : rEqD K (.ref a) (.ref b) H Q :=
  ⟨_, _, .lst ha (dp_tups t hd), .lst hb (dp_tups u hd), shaped_tups hd, shaped_tups hd, by rw [eqv_tups hd]; exact q⟩
theorem ne_tupsL {K : PySem.W.Frag} {H : Hp} {a b : Addr} {xs ys : List V} {ds : List (List V)} {Q : VK} (ha : SqL K H a xs) (hb : SqL K H b ys) (t : Tups K H xs ds) (u : Tups K H ys ds) (hd : ∀ d ∈ ds, d.all isPd = true) (q : Q (.bl false) H) : rNeD K (.ref a) (.ref b) H Q :=
  ⟨_, _, .lst ha (dp_tups t hd), .lst hb (dp_tups u hd), shaped_tups hd, shaped_tups hd, by rw [eqv_tups hd]; exact q⟩

/-! ### list + list, whoever holds them -/
def rCatR (K : PySem.W.Frag) : R2 := fun x y H Q => ∃ l b xs zs, x = .ref l ∧ y = .ref b ∧ SqL K H l xs ∧ SqL K H b zs ∧ xs.length + zs.length ≤ sizeLine ∧ New H (.lst (xs ++ zs)) fun p H2 => Q (.ref p) H2
theorem op_catS {X : Cx} {K : PySem.W.Frag} (h : X.K = K := by rfl) : OpR X (binaryOp .Add) (rCatR K) := by
  subst h
  intro pins s σ H x y v u Q I rx ry h
  obtain ⟨l, b, xs, zs, rfl, rfl, hH, hB, hz, q⟩ := h
  cases rx
  cases ry
  obtain ⟨its, r, ⟨⟨cls, dd, dt, sl⟩, n, e, hc, hd0, hd⟩, hz1⟩ := I.list hH
  obtain ⟨its2, r2, ⟨⟨cls2, dd2, dt2, sl2⟩, n2, e2, hc2, hd02, hd2⟩, hz2⟩ := I.list hB
  simp only at hc hd hc2 hd2
  subst hc hd hc2 hd2
  have hl := r.length
  have hl2 := r2.length
  have ea : its.toArray ++ its2.toArray = (its ++ its2).toArray := by simp
  refine concat_meets ⟨_, e, rfl⟩ ⟨_, e2, rfl⟩ noFill_list_add seq_list_add PySem.F.slot_list_add PySem.F.entry_list_add (PySem.F.args_list_add_2 _ _) (list_addW l b its.toArray its2.toArray n n2 dd dd2 sl sl2 (by rw [List.size_toArray, List.size_toArray]; omega)) ⟨e, e2, ?_⟩
  rw [ea]
  exact ⟨.ref _, _, I.lnew (t' := s.toks) (r.append r2) (by rw [List.length_append]; omega), rfl, q _ I.fresh⟩
end Rb

set_option Elab.async false
set_option linter.all false
set_option maxRecDepth 100000
set_option maxHeartbeats 4000000
namespace K47
open PySem PySem.Spec PyProof.Rows L2 Rb
def topS (i : Nat) : Stmt := PySem.Challenge.pw_roomslaid_k47_lines_touched.main.body.getD i (.Pass ⟨0, 0, 0, 0⟩)
abbrev s_NoPlace_init : Stmt := inClass (topS 2) 0
abbrev s_NoLine_init : Stmt := inClass (topS 3) 0
abbrev s_is_whole : Stmt := topS 5
abbrev s_is_within : Stmt := topS 6
abbrev s_is_place : Stmt := topS 11
abbrev s_need_place : Stmt := topS 12
abbrev s_last_cell : Stmt := topS 13
abbrev s_cells_in : Stmt := topS 14
abbrev s_lines_of : Stmt := topS 17
abbrev s_law_drawn : Stmt := topS 19
abbrev s_law_place : Stmt := topS 20
abbrev s_law_due : Stmt := topS 21
abbrev s_law_same : Stmt := topS 22
abbrev s_law : Stmt := topS 23
theorem sc_NoPlace_init : FnScope ["self", "found"] ["self", "found"] (defScope s_NoPlace_init) := ⟨rfl, rfl, rfl, by decide +kernel, rfl, by decide +kernel, by decide +kernel⟩
theorem sc_NoLine_init : FnScope ["self", "found"] ["self", "found"] (defScope s_NoLine_init) := ⟨rfl, rfl, rfl, by decide +kernel, rfl, by decide +kernel, by decide +kernel⟩
theorem sc_is_whole : FnScope ["thing"] ["thing"] (defScope s_is_whole) := ⟨rfl, rfl, rfl, by decide +kernel, rfl, by decide +kernel, by decide +kernel⟩
theorem sc_is_within : FnScope ["thing", "low", "high"] ["thing", "low", "high"] (defScope s_is_within) := ⟨rfl, rfl, rfl, by decide +kernel, rfl, by decide +kernel, by decide +kernel⟩
theorem sc_is_place : FnScope ["thing", "cell", "shift", "bits"] ["thing"] (defScope s_is_place) := ⟨rfl, rfl, rfl, by decide +kernel, rfl, by decide +kernel, by decide +kernel⟩
theorem sc_need_place : FnScope ["thing"] ["thing"] (defScope s_need_place) := ⟨rfl, rfl, rfl, by decide +kernel, rfl, by decide +kernel, by decide +kernel⟩
theorem sc_last_cell : FnScope ["place"] ["place"] (defScope s_last_cell) := ⟨rfl, rfl, rfl, by decide +kernel, rfl, by decide +kernel, by decide +kernel⟩
theorem sc_cells_in : FnScope ["place", "k"] ["place"] (defScope s_cells_in) := ⟨rfl, rfl, rfl, by decide +kernel, rfl, by decide +kernel, by decide +kernel⟩
theorem sc_lines_of : FnScope ["places", "wide", "found", "place", "cells", "line"] ["places", "wide"] (defScope s_lines_of) := ⟨rfl, rfl, rfl, by decide +kernel, rfl, by decide +kernel, by decide +kernel⟩
theorem sc_law_drawn : FnScope ["_law_cell", "_law_sizes", "_law_found", "_law_many", "_law_one", "_law_other"] ["_law_cell", "_law_sizes"] (defScope s_law_drawn) := ⟨rfl, rfl, rfl, by decide +kernel, rfl, by decide +kernel, by decide +kernel⟩
theorem sc_law_place : FnScope ["_law_cell", "_law_draws", "_law_at"] ["_law_cell"] (defScope s_law_place) := ⟨rfl, rfl, rfl, by decide +kernel, rfl, by decide +kernel, by decide +kernel⟩
theorem sc_law_due : FnScope ["_law_place_here", "_law_wide", "_law_cells", "_law_first", "_law_k"] ["_law_place_here", "_law_wide"] (defScope s_law_due) := ⟨rfl, rfl, rfl, by decide +kernel, rfl, by decide +kernel, by decide +kernel⟩
theorem sc_law_same : FnScope ["_law_found", "_law_due_here", "_law_line"] ["_law_found", "_law_due_here"] (defScope s_law_same) := ⟨rfl, rfl, rfl, by decide +kernel, rfl, by decide +kernel, by decide +kernel⟩
theorem sc_law : FnScope ["_law_script", "_law_places", "_law_cell", "_law_wide", "_law_due_here", "_law_place_here", "_law_handed", "_law_told"] ["_law_script"] (defScope s_law) := ⟨rfl, rfl, rfl, by decide +kernel, rfl, by decide +kernel, by decide +kernel⟩
local macro_rules | `(tactic| walk_at "rd") => `(tactic| simp only [L2.start, cxOf, tSeq, tAsg, tIfS, tTest, tB, tOp, tUn, tVar, tC, tCB, tCons, tNil, tRet, tRetN, tNext, tDrop, tBM, tBM0, tLst_n, tTup_n, tAnd, tOr, tNot, tAndV, tOrV, tNotV, tIf, tChain, tCall, gName, gTup, gCons, gNil, gUnl, gSub, rI, rI0, rU, rIxL, rIxT, rSlL_n, tSl, tPart, tNoPart, rCatR, rAppend_n, rExtend_n, rPop_n, rClear_n, rSetL_n, tFor_n, tLc_n, iRngL1, iRngL2, iList, iTup, iRev, rDivmod, rListOf, rTupOf, rLenSeq, rMin2, rMax2, rAll, rAny, rIsi, tNever, tYes, wipe, rEq, rNe, scal_ii, scal_bb, scal_ss, scal_nn, scal_ni, scal_in, scal_ns, scal_sn, scal_is, scal_si,
  List.map_cons, List.map_nil, List.length_cons, List.length_nil, List.replicate, List.nil_append, List.cons_append, List.append_nil, List.getElem?_cons_zero, List.getElem?_cons_succ, List.set_cons_zero, List.set_cons_succ, List.set_nil, Nat.reduceAdd, Nat.reduceSub,
  Option.some.injEq, V.int.injEq, V.ref.injEq, V.bl.injEq, V.str.injEq, V.ty.injEq, List.cons.injEq, and_assoc, and_true, true_and, exists_eq_left, exists_eq_left', exists_and_left, exists_and_right, exists_eq, exists_eq', exists_eq_right, exists_eq_right', if_true, if_false, Bool.false_eq_true, Bool.not_true, Bool.not_false, if_pos, Int.toNat_natCast, decide_eq_true_eq, Bool.not_eq_true', decide_eq_false_iff_not, reduceCtorEq, false_and, and_false, exists_false, exists_const])
local macro_rules | `(tactic| walk_at "ex") => `(tactic| repeat' (first | assumption | (with_reducible refine Exists.intro _ ?_) | (with_reducible refine And.intro ?_ ?_) | rfl))

/-! ### the law's draws -/
def Drawn : List Int → List Int → Prop := Paired fun m v => 0 ≤ v ∧ v < m
theorem Drawn.snoc {m v : Int} : ∀ {ms vs : List Int}, Drawn ms vs → 0 ≤ v ∧ v < m → Drawn (ms ++ [m]) (vs ++ [v])
  | _, _, .nil, h => .cons h .nil
  | _, _, .cons r t, h => .cons r (Drawn.snoc t h)
theorem Drawn.len {ms vs : List Int} (d : Drawn ms vs) : ms.length = vs.length := Paired.length d
def spDrawn (K : PySem.W.Frag) : Sp := fun vs H Q _ => ∃ (z : Int) (b : Addr) (ms : List Int), vs = [.int z, .ref b] ∧ SqL K H b (ms.map V.int) ∧ (∀ m ∈ ms, 0 < m ∧ m < 2 ^ 200) ∧ ms.length ≤ 100 ∧
  ∀ p H1 ws, H p = none → Same H H1 → H1 p = some (.lst (ws.map V.int)) → Drawn ms ws → Q (.ref p) H1
section
variable {P : Program} {w : World} {K : PySem.W.Frag} {mg : Str → Option Value} {base : Heap}
theorem ok_drawn {f : Addr} {fd : FuncData} (F : Fun K "_law_drawn" "_law_drawn" s_law_drawn f fd) : FnOk P w K mg base CX0 1 f fd ["_law_cell", "_law_sizes"] (spDrawn K) := by
  refine F.ok sc_law_drawn (fun vs H Q E h => ?_) (fun cdv A outer s H vs Q E hr h => ?_)
  · obtain ⟨z, b, ms, rfl, _⟩ := h
    rfl
  · obtain ⟨z, b, ms, rfl, hS, hm, hl, q⟩ := h
    refine ⟨_, (pss_cons (ps_set (i := 2) sc_law_drawn.nd rfl (by first | exact Or.inl rfl | exact Or.inr rfl) (pe_lst pa_nil))
      (pss_cons (ps_if (pt_cmpR op_ge (pv 0) (pe_op op_pow pe_int pe_int) (nomark _)) (pss_cons (ps_for PassesOwn.never rfl (pi_listK (pv 1) (K := K)) (pg_name (i := 3) sc_law_drawn.nd rfl (by first | exact Or.inl rfl | exact Or.inr rfl)) (pss_cons (ps_expr (pe_bmK (K := K) PySem.F.plainAttrs_list PySem.F.slot_list_append PySem.F.type_list_append mt_append (pv 2) (pa_cons (pe_op op_modN (pv 0) (pv 3)) pa_nil)))
      (pss_one (ps_set (i := 0) sc_law_drawn.nd rfl (by first | exact Or.inl rfl | exact Or.inr rfl) (pe_op op_fdivW (pv 0) (pv 3))))))
      (pss_one (ps_ret (pv 2)))) pss_nil)
      (pss_cons (ps_set (i := 4) sc_law_drawn.nd rfl (by first | exact Or.inl rfl | exact Or.inr rfl) (pe_op op_modN (pe_op op_add (pe_op op_mul (pv 0) pe_int) pe_int) pe_int))
      (pss_cons (ps_set (i := 5) sc_law_drawn.nd rfl (by first | exact Or.inl rfl | exact Or.inr rfl) (pe_op op_modN (pe_op op_add (pe_op op_mul (pv 0) pe_int) pe_int) pe_int))
      (pss_cons (ps_set (i := 4) sc_law_drawn.nd rfl (by first | exact Or.inl rfl | exact Or.inr rfl) (pe_op op_modN (pe_op op_add (pe_op op_add (pe_op op_mulX (pv 4) (pv 4)) (pe_op op_mul pe_int (pv 4))) pe_int) pe_int))
      (pss_cons (ps_for PassesOwn.never rfl (pi_listK (pv 1) (K := K)) (pg_name (i := 3) sc_law_drawn.nd rfl (by first | exact Or.inl rfl | exact Or.inr rfl)) (pss_cons (ps_set (i := 4) sc_law_drawn.nd rfl (by first | exact Or.inl rfl | exact Or.inr rfl) (pe_op op_modN (pe_op op_add (pe_op op_add (pe_op op_mulX (pv 4) (pv 4)) (pe_op op_mul pe_int (pv 4))) pe_int) pe_int))
      (pss_cons (ps_set (i := 5) sc_law_drawn.nd rfl (by first | exact Or.inl rfl | exact Or.inr rfl) (pe_op op_modN (pe_op op_add (pe_op op_add (pe_op op_mul (pv 5) pe_int) (pe_op op_mul pe_int (pe_op op_modN (pv 4) pe_int))) pe_int) pe_int))
      (pss_one (ps_expr (pe_bmK (K := K) PySem.F.plainAttrs_list PySem.F.slot_list_append PySem.F.type_list_append mt_append (pv 2) (pa_cons (pe_op op_modN (pe_op op_add (pe_op op_mul (pv 4) pe_int) (pv 5)) (pv 3)) pa_nil)))))))
      (pss_one (ps_ret (pv 2))))))))), ?_⟩
    walk_at "rd"
    refine ⟨by decide, New.intro fun p H1 np s1 h1 => ⟨⟨by decide, by decide, by decide⟩, ite2 (fun c => ?_) (fun c => ?_)⟩⟩
    · refine ⟨⟨_, s1.seq hS⟩, Loop.list (xs := ms.map V.int) (fun i σ H2 => ∃ y x1 x2 ws, σ = [some (.int y), some (.ref b), some (.ref p), x1, x2, none] ∧ Same H H2 ∧ H2 p = some (.lst (ws.map V.int)) ∧ Drawn (ms.take i) ws) ⟨z, none, none, [], rfl, s1, h1, .nil⟩ ?_ ?_ ?_⟩
      · rintro i σ H2 _ ⟨y, x1, x2, ws, rfl, s2, _⟩
        exact s2.seq hS
      · rintro i x σ H2 hx ⟨y, x1, x2, ws, rfl, s2, h2, dr⟩
        obtain ⟨m, hmi, rfl⟩ := int_at hx
        obtain ⟨m0, m1⟩ := hm m (List.mem_of_getElem? hmi)
        have dl := dr.len
        walk_at "rd"
        refine ⟨tyv_list (seq_of h2), by omega, _, h2, small1000 (by rw [List.length_map, ← dl, List.length_take]; omega), Upd.intro fun H3 o3 h3 => ⟨wide_div (b := 200) m0 (by omega) (by decide) (by decide), Same.off s2 np o3, ws ++ [y.fmod m], ?_, ?_⟩⟩
        · rw [h3, List.map_append]
          rfl
        · rw [take_snoc hmi]
          exact dr.snoc ⟨Int.fmod_nonneg_of_pos _ m0, Int.fmod_lt_of_pos _ m0⟩
      · rintro σ H2 ⟨y, x1, x2, ws, rfl, s2, h2, dr⟩
        walk_at "rd"
        rw [List.length_map, List.take_length] at dr
        exact q p H2 ws np s2 h2 dr
    · refine ⟨.inr ⟨by decide, by decide⟩, by decide, .inr ⟨by decide, by decide⟩, by decide, ?_⟩
      have p1 := Int.fmod_nonneg_of_pos (z * 48271 + 11) (show (0 : Int) < 2147483647 by decide)
      have p2 := Int.fmod_lt_of_pos (z * 48271 + 11) (show (0 : Int) < 2147483647 by decide)
      refine ⟨mulx_ok (a := 40) (b := 40) (by omega) (by omega) (by decide), .inl ⟨by decide, by decide⟩, by decide, ⟨_, s1.seq hS⟩, ?_⟩
      refine Loop.list (xs := ms.map V.int) (fun i σ H2 => ∃ x1 u v ws, σ = [some (.int z), some (.ref b), some (.ref p), x1, some (.int u), some (.int v)] ∧ (0 ≤ u ∧ u < 2147483647) ∧ Same H H2 ∧ H2 p = some (.lst (ws.map V.int)) ∧ Drawn (ms.take i) ws)
        ⟨none, _, _, [], rfl, ⟨Int.fmod_nonneg_of_pos _ (by decide), Int.fmod_lt_of_pos _ (by decide)⟩, s1, h1, .nil⟩ ?_ ?_ ?_
      · rintro i σ H2 _ ⟨x1, u, v, ws, rfl, _, s2, _⟩
        exact s2.seq hS
      · rintro i x σ H2 hx ⟨x1, u, v, ws, rfl, ⟨u0, u1⟩, s2, h2, dr⟩
        obtain ⟨m, hmi, rfl⟩ := int_at hx
        obtain ⟨m0, m1⟩ := hm m (List.mem_of_getElem? hmi)
        have dl := dr.len
        walk_at "rd"
        refine ⟨mulx_ok (a := 40) (b := 40) (by omega) (by omega) (by decide), .inl ⟨by decide, by decide⟩, by decide, .inr ⟨by decide, by decide⟩, by decide, .inl ⟨by decide, by decide⟩, by decide, tyv_list (seq_of h2), .inr ⟨by decide, by decide⟩, by omega, _, h2,
          small1000 (by rw [List.length_map, ← dl, List.length_take]; omega), Upd.intro fun H3 o3 h3 => ⟨Int.fmod_nonneg_of_pos _ (by decide), Int.fmod_lt_of_pos _ (by decide), Same.off s2 np o3, ?_⟩⟩
        have fin : ∀ y : Int, 0 ≤ y → y < m → H3 p = some (.lst (ws.map V.int ++ [.int y])) → ∃ ws' : List Int, H3 p = some (.lst (ws'.map V.int)) ∧ Drawn (ms.take (i + 1)) ws' := fun y y0 y1 e =>
          ⟨ws ++ [y], by rw [e, List.map_append]; rfl, by rw [take_snoc hmi]; exact dr.snoc ⟨y0, y1⟩⟩
        exact fin _ (Int.fmod_nonneg_of_pos _ m0) (Int.fmod_lt_of_pos _ m0) h3
      · rintro σ H2 ⟨x1, u, v, ws, rfl, _, s2, h2, dr⟩
        walk_at "rd"
        rw [List.length_map, List.take_length] at dr
        exact q p H2 ws np s2 h2 dr
end

/-! ### words.py -/
def isIn : V → Int → Int → Bool
  | .int i, lo, hi => decide (lo ≤ i) && decide (i ≤ hi)
  | _, _, _ => false
def spIsWhole (K : PySem.W.Frag) : Sp := fun vs H Q _ => ∃ (x : V) (T : String), vs = [x] ∧ Thg K H x T ∧ Q (.bl (isWh x)) H
def spIsWithin (K : PySem.W.Frag) : Sp := fun vs H Q _ => ∃ (x : V) (T : String) (lo hi : Int), vs = [x, .int lo, .int hi] ∧ Thg K H x T ∧ Q (.bl (isIn x lo hi)) H
section
variable {P : Program} {w : World} {K : PySem.W.Frag} {mg : Str → Option Value} {base : Heap}
theorem ok_isWhole {f : Addr} {fd : FuncData} (F : Fun K "is_whole" "is_whole" s_is_whole f fd) (z_isinstance : mg "isinstance" = none) (z_int : mg "int" = none) (z_bool : mg "bool" = none) : FnOk P w K mg base CX0 1 f fd ["thing"] (spIsWhole K) := by
  refine F.ok sc_is_whole (fun vs H Q E h => ?_) (fun cdv A outer s H vs Q E hr h => ?_)
  · obtain ⟨x, T, rfl, _⟩ := h
    rfl
  · obtain ⟨x, T, rfl, t, q⟩ := h
    refine ⟨_, (pss_one (ps_ret (pe_and (pe_callB (call_isiK' (K := K)) (by rfl) z_isinstance (by decide +kernel) (pa_cons (pv 0) (pa_cons (pe_bltn (v := V.ty "int") (u := Value.type "int") (by rfl) z_int (by decide +kernel) rfl) pa_nil))) (pe_one (pe_not (pe_callB (call_isiK' (K := K)) (by rfl) z_isinstance (by decide +kernel) (pa_cons (pv 0) (pa_cons (pe_bltn (v := V.ty "bool") (u := Value.type "bool") (by rfl) z_bool (by decide +kernel) rfl) pa_nil)))))))), ?_⟩
    walk_at "rd"
    have e := isWh_of t
    refine isiT t (by decide) (ite2 (fun c => isiT t (by decide) ?_) (fun c => ?_))
    · rw [c, Bool.true_and] at e
      rw [e]
      exact q
    · rw [Bool.eq_false_iff.mpr c, Bool.false_and] at e
      rw [e]
      exact q
theorem ok_isWithin {f : Addr} {fd : FuncData} (F : Fun K "is_within" "is_within" s_is_within f fd) (D_is_whole : Dn P w K mg base CX0 1 "is_whole" ["thing"] (spIsWhole K)) : FnOk P w K mg base CX0 2 f fd ["thing", "low", "high"] (spIsWithin K) := by
  refine F.ok sc_is_within (fun vs H Q E h => ?_) (fun cdv A outer s H vs Q E hr h => ?_)
  · obtain ⟨x, T, lo, hi, rfl, _⟩ := h
    rfl
  · obtain ⟨x, T, lo, hi, rfl, t, q⟩ := h
    refine ⟨_, (pss_one (ps_ret (pe_and (pe_cd D_is_whole (hr.mono (by decide)) (by rfl) pass0 (pa_cons (pv 0) pa_nil)) (pe_one (pe_chain op_le op_le (pv 1) (pv 0) (pv 2)))))), ?_⟩
    walk_at "rd"
    refine ⟨x, T, rfl, t, _, rfl, ?_⟩
    cases x with
    | int i =>
      have e : isIn (.int i) lo hi = (decide (lo ≤ i) && decide (i ≤ hi)) := rfl
      rw [e] at q
      refine iteT ⟨i, rfl, ite2 (fun c => ⟨i, rfl, ?_⟩) (fun c => ?_)⟩
      · rw [decide_eq_true c, Bool.true_and] at q
        exact q
      · rw [decide_eq_false c, Bool.false_and] at q
        exact q
    | _ => exact iteF q
end

/-! ### room.py: places -/
def okP (c s b : Int) : Bool := decide (0 ≤ c) && (if b = 2 then decide (0 ≤ s) && decide (s < 8) && decide (s % 2 = 0) else decide (s = 0) && decide (8 ≤ b) && decide (b ≤ 512) && decide (b % 8 = 0))
def placeOk (xs : List V) : Bool := match xs with
  | [v, v1, v2] => (match v, v1, v2 with
    | .int c, .int s, .int b => okP c s b
    | _, _, _ => false)
  | _ => false
def spIsPlace (K : PySem.W.Frag) : Sp := fun vs H Q _ => ∃ (x : V) (T : String), vs = [x] ∧ Thg K H x T ∧
  ((T ≠ "tuple" ∧ Q (.bl false) H) ∨ ∃ a xs, x = .ref a ∧ SqT K H a xs ∧ (∀ y ∈ xs, ∃ T, Thg K H y T) ∧ Q (.bl (placeOk xs)) H)
section
variable {P : Program} {w : World} {K : PySem.W.Frag} {mg : Str → Option Value} {base : Heap}
theorem ok_isPlace {f : Addr} {fd : FuncData} (F : Fun K "is_place" "is_place" s_is_place f fd) (z_isinstance : mg "isinstance" = none) (z_tuple : mg "tuple" = none) (z_len : mg "len" = none)
    (c_TAG_BITS : ∃ t, mg "TAG_BITS" = some (.int 2 t)) (c_CELL_BITS : ∃ t, mg "CELL_BITS" = some (.int 8 t)) (c_MOST_BITS : ∃ t, mg "MOST_BITS" = some (.int 512 t))
    (D_is_whole : Dn P w K mg base CX0 1 "is_whole" ["thing"] (spIsWhole K)) : FnOk P w K mg base CX0 2 f fd ["thing"] (spIsPlace K) := by
  refine F.ok sc_is_place (fun vs H Q E h => ?_) (fun cdv A outer s H vs Q E hr h => ?_)
  · obtain ⟨x, T, rfl, _⟩ := h
    rfl
  · obtain ⟨x, T, rfl, t, q⟩ := h
    refine ⟨_, (pss_cons (ps_if (PW.pt (pw_or (pt_not (pt_val (pe_callB (call_isiK' (K := K)) (by rfl) z_isinstance (by decide +kernel) (pa_cons (pv 0) (pa_cons (pe_bltn (v := V.ty "tuple") (u := Value.type "tuple") (by rfl) z_tuple (by decide +kernel) rfl) pa_nil))))) (pw_or1 (pt_cmpR op_ne (pe_callB (call_lenR (K := K)) (by rfl) z_len (by decide +kernel) (pa_cons (pv 0) pa_nil)) pe_int (nomark _))))) (pss_one (ps_ret pe_bl)) pss_nil)
      (pss_cons (ps_asg (pv 0) (pg_tup rfl (pgs_cons (pg_name (i := 1) sc_is_place.nd rfl (by first | exact Or.inl rfl | exact Or.inr rfl)) (pgs_cons (pg_name (i := 2) sc_is_place.nd rfl (by first | exact Or.inl rfl | exact Or.inr rfl)) (pgs_cons (pg_name (i := 3) sc_is_place.nd rfl (by first | exact Or.inl rfl | exact Or.inr rfl)) pgs_nil)))))
      (pss_cons (ps_if (PW.pt (pw_or (pt_not (pt_val (pe_cd D_is_whole (hr.mono (by decide)) (by rfl) pass0 (pa_cons (pv 1) pa_nil)))) (pw_or (pt_not (pt_val (pe_cd D_is_whole (hr.mono (by decide)) (by rfl) pass0 (pa_cons (pv 2) pa_nil)))) (pw_or (pt_not (pt_val (pe_cd D_is_whole (hr.mono (by decide)) (by rfl) pass0 (pa_cons (pv 3) pa_nil)))) (pw_or1 (pt_cmpR op_lt (pv 1) pe_int (nomark _))))))) (pss_one (ps_ret pe_bl)) pss_nil)
      (pss_cons (ps_if (pt_cmpR op_eq (pv 3) (pe_gi (by rfl) c_TAG_BITS) (nomark _)) (pss_one (ps_ret (pe_and (pe_chain op_le op_lt pe_int (pv 2) (pe_gi (by rfl) c_CELL_BITS)) (pe_one (pe_cmpR op_eq (pe_op op_modN (pv 2) (pe_gi (by rfl) c_TAG_BITS)) pe_int (nomark _)))))) pss_nil)
      (pss_one (ps_ret (pe_and (pe_cmpR op_eq (pv 2) pe_int (nomark _)) (pe_and (pe_chain op_le op_le (pe_gi (by rfl) c_CELL_BITS) (pv 3) (pe_gi (by rfl) c_MOST_BITS)) (pe_one (pe_cmpR op_eq (pe_op op_modN (pv 3) (pe_gi (by rfl) c_CELL_BITS)) pe_int (nomark _))))))))))), ?_⟩
    walk_at "rd"
    rcases q with ⟨hT, q⟩ | ⟨a, xs, rfl, hS, hk, q⟩
    · refine isiT t (by decide) (iteP ?_ q)
      simp [kindIs, hT]
    · refine isiT (thg_tup hS) (by decide) (iteN (by decide) ⟨a, rfl, xs, .inr hS, ite2 (fun l3 => ?_) (fun l3 => ?_)⟩)
      · have e : placeOk xs = false := by
          match xs with
          | [] => rfl
          | [_] => rfl
          | [_, _] => rfl
          | [_, _, _] => exact absurd rfl l3
          | _ :: _ :: _ :: _ :: _ => rfl
        rw [e] at q
        exact q
      · obtain ⟨v, v1, v2, rfl⟩ : ∃ v v1 v2, xs = [v, v1, v2] := by
          match xs, l3 with
          | [v, v1, v2], _ => exact ⟨v, v1, v2, rfl⟩
          | [], c => exact absurd (fun h => by cases h) c
          | [_], c => exact absurd (fun h => by cases h) c
          | [_, _], c => exact absurd (fun h => by cases h) c
          | _ :: _ :: _ :: _ :: r, c =>
            refine absurd (fun h => ?_) c
            simp only [List.length_cons] at h
            omega
        obtain ⟨T1, t1⟩ := hk v (by simp)
        obtain ⟨T2, t2⟩ := hk v1 (by simp)
        obtain ⟨T3, t3⟩ := hk v2 (by simp)
        refine ⟨a, rfl, _, hS, rfl, _, _, rfl, _, _, rfl, _, _, rfl, rfl, ?_⟩
        refine ⟨v, T1, rfl, t1, _, rfl, ?_⟩
        have no : ∀ {v v1 v2 : V}, (∀ c s b, ¬ (v = .int c ∧ v1 = .int s ∧ v2 = .int b)) → placeOk [v, v1, v2] = false := fun {v v1 v2} h => by
          unfold placeOk
          dsimp only
          split
          · exact absurd ⟨rfl, rfl, rfl⟩ (h _ _ _)
          · rfl
        refine ite2 (fun w1 => ?_) (fun w1 => ⟨v1, T2, rfl, t2, _, rfl, ite2 (fun w2 => ?_) (fun w2 => ⟨v2, T3, rfl, t3, _, rfl, ite2 (fun w3 => ?_) (fun w3 => ?_)⟩)⟩)
        · rw [no (fun c s b h => by rw [h.1] at w1; cases w1)] at q
          exact q
        · rw [no (fun c s b h => by rw [h.2.1] at w2; cases w2)] at q
          exact q
        · rw [no (fun c s b h => by rw [h.2.2] at w3; cases w3)] at q
          exact q
        · clear l3
          obtain ⟨c, rfl⟩ : ∃ c, v = .int c := by cases v <;> first | exact ⟨_, rfl⟩ | exact absurd rfl w1
          obtain ⟨s, rfl⟩ : ∃ c, v1 = .int c := by cases v1 <;> first | exact ⟨_, rfl⟩ | exact absurd rfl w2
          obtain ⟨b, rfl⟩ : ∃ c, v2 = .int c := by cases v2 <;> first | exact ⟨_, rfl⟩ | exact absurd rfl w3
          have key : ∀ B : Bool, okP c s b = B → Q (.bl B) H := fun B e => by
            rw [← e]
            exact q
          walk_at "rd"
          have e2 : s.fmod 2 = s % 2 := Int.fmod_eq_emod_of_nonneg s (by decide)
          have e8 : b.fmod 8 = b % 8 := Int.fmod_eq_emod_of_nonneg b (by decide)
          rw [e2, e8]
          unfold okP at key
          refine ite2 (fun c0 => key _ ?_) (fun c0 => ite2 (fun h2 => ite2 (fun s0 => ite2 (fun s8 => ⟨by decide, key _ ?_⟩) (fun s8 => key _ ?_)) (fun s0 => key _ ?_)) (fun h2 => ite2 (fun s0 => ite2 (fun b8 => ite2 (fun b5 => ⟨by decide, key _ ?_⟩) (fun b5 => key _ ?_)) (fun b8 => key _ ?_)) (fun s0 => key _ ?_)))
          · rw [decide_eq_false (by omega), Bool.false_and]
          all_goals rw [decide_eq_true (show 0 ≤ c by omega), Bool.true_and]
          · rw [if_pos h2, decide_eq_true s0, decide_eq_true s8, Bool.true_and, Bool.true_and]
          · rw [if_pos h2, decide_eq_false s8, Bool.and_false, Bool.false_and]
          · rw [if_pos h2, decide_eq_false s0, Bool.false_and, Bool.false_and]
          · rw [if_neg h2, decide_eq_true s0, decide_eq_true b8, decide_eq_true b5, Bool.true_and, Bool.true_and, Bool.true_and]
          · rw [if_neg h2, decide_eq_false b5, Bool.and_false, Bool.false_and]
          · rw [if_neg h2, decide_eq_false b8, Bool.and_false, Bool.false_and, Bool.false_and]
          · rw [if_neg h2, decide_eq_false s0, Bool.false_and, Bool.false_and, Bool.false_and]
end
/-! places that are places -/
def lastC (c s b : Int) : Int := c + (s + b - 1) / 8
theorem okP_last {c s b : Int} (h : okP c s b = true) : 0 ≤ c ∧ 0 ≤ s ∧ s < 8 ∧ 2 ≤ b ∧ b ≤ 512 ∧ c ≤ lastC c s b ∧ lastC c s b ≤ c + 64 := by
  unfold okP at h
  unfold lastC
  rw [Bool.and_eq_true] at h
  obtain ⟨h0, h⟩ := h
  have h0 := of_decide_eq_true h0
  split at h
  · simp only [Bool.and_eq_true, decide_eq_true_eq] at h
    omega
  · simp only [Bool.and_eq_true, decide_eq_true_eq] at h
    omega
def cellsR (c s b : Int) : List Int := (List.range (lastC c s b - c + 1).toNat).map fun (k : Nat) => c + (k : Int)
def spLastCell (K : PySem.W.Frag) : Sp := fun vs H Q _ => ∃ (a : Addr) (c s b : Int), vs = [.ref a] ∧ SqT K H a [.int c, .int s, .int b] ∧ Q (.int (lastC c s b)) H
def spNeedOk (K : PySem.W.Frag) : Sp := fun vs H Q _ => ∃ (a : Addr) (c s b : Int), vs = [.ref a] ∧ SqT K H a [.int c, .int s, .int b] ∧ okP c s b = true ∧ Q .non H
def spCellsIn (K : PySem.W.Frag) : Sp := fun vs H Q _ => ∃ (a : Addr) (c s b : Int), vs = [.ref a] ∧ SqT K H a [.int c, .int s, .int b] ∧ okP c s b = true ∧ ∀ p H1, H p = none → Same H H1 → H1 p = some (.lst ((cellsR c s b).map V.int)) → Q (.ref p) H1
section
variable {P : Program} {w : World} {K : PySem.W.Frag} {mg : Str → Option Value} {base : Heap}
theorem ok_lastCell {f : Addr} {fd : FuncData} (F : Fun K "last_cell" "last_cell" s_last_cell f fd) (c_CELL_BITS : ∃ t, mg "CELL_BITS" = some (.int 8 t)) : FnOk P w K mg base CX0 1 f fd ["place"] (spLastCell K) := by
  refine F.ok sc_last_cell (fun vs H Q E h => ?_) (fun cdv A outer s H vs Q E hr h => ?_)
  · obtain ⟨a, c, s, b, rfl, _⟩ := h
    rfl
  · obtain ⟨a, c, s, b, rfl, hS, q⟩ := h
    refine ⟨_, (pss_one (ps_ret (pe_op op_add (pe_ix (ix_tupK (K := K)) (pv 0) pe_int (fun _ _ => rfl)) (pe_op op_fdivW (pe_op op_sub (pe_op op_add (pe_ix (ix_tupK (K := K)) (pv 0) pe_int (fun _ _ => rfl)) (pe_ix (ix_tupK (K := K)) (pv 0) pe_int (fun _ _ => rfl))) pe_int) (pe_gi (by rfl) c_CELL_BITS))))), ?_⟩
    walk_at "rd"
    exact ⟨_, hS, _, rfl, _, hS, _, rfl, _, hS, _, rfl, _, rfl, _, rfl, ⟨by decide, by decide⟩, _, rfl, q⟩
theorem ok_needOk {f : Addr} {fd : FuncData} (F : Fun K "need_place" "need_place" s_need_place f fd) (D_is_place : Dn P w K mg base CX0 2 "is_place" ["thing"] (spIsPlace K)) : FnOk P w K mg base CX0 3 f fd ["thing"] (spNeedOk K) := by
  refine F.ok sc_need_place (fun vs H Q E h => ?_) (fun cdv A outer s H vs Q E hr h => ?_)
  · obtain ⟨a, c, s, b, rfl, _⟩ := h
    rfl
  · obtain ⟨a, c, s, b, rfl, hS, ho, q⟩ := h
    refine ⟨_, (pss_one (ps_if (pt_not (pt_val (pe_cd D_is_place (hr.mono (by decide)) (by rfl) pass0 (pa_cons (pv 0) pa_nil)))) (pss_one ps_never) pss_nil)), ?_⟩
    walk_at "rd"
    refine ⟨_, _, rfl, thg_tup hS, .inr ⟨a, _, rfl, hS, fun y hy => ⟨"int", ?_⟩, _, rfl, ?_⟩⟩
    · simp only [List.mem_cons, List.not_mem_nil, or_false] at hy
      rcases hy with e | e | e
      all_goals
        subst e
        exact thg_int
    · have e : placeOk [.int c, .int s, .int b] = true := ho
      rw [e]
      exact iteN (by decide) q
theorem ok_cellsIn {f : Addr} {fd : FuncData} (F : Fun K "cells_in" "cells_in" s_cells_in f fd) (z_range : mg "range" = none) (D_need_place : Dn P w K mg base CX0 3 "need_place" ["thing"] (spNeedOk K)) (D_last_cell : Dn P w K mg base CX0 1 "last_cell" ["place"] (spLastCell K)) : FnOk P w K mg base CX0 4 f fd ["place"] (spCellsIn K) := by
  refine F.ok sc_cells_in (fun vs H Q E h => ?_) (fun cdv A outer s H vs Q E hr h => ?_)
  · obtain ⟨a, c, s, b, rfl, _⟩ := h
    rfl
  · obtain ⟨a, c, s, b, rfl, hS, ho, q⟩ := h
    refine ⟨_, (pss_cons (ps_expr (pe_cd D_need_place (hr.mono (by decide)) (by rfl) pass0 (pa_cons (pv 0) pa_nil)))
      (pss_one (ps_ret (pe_lc (own := [("k", 1)]) (g := gName 1) (tt := tYes) rfl sc_cells_in.nd (pi_rangeL1 (by rfl) z_range (pa_cons (pe_op op_add (pe_op op_sub (pe_cd D_last_cell (hr.mono (by decide)) (by rfl) pass0 (pa_cons (pv 0) pa_nil)) (pe_ix (ix_tupK (K := K)) (pv 0) pe_int (fun _ _ => rfl))) pe_int) pa_nil)) (blkOk_by (own := [("k", 1)]) (N := ["place", "k"]) (sc := defScope s_cells_in) (by decide +kernel)) (fun _ _ _ _ _ => pg_name (i := 1) sc_cells_in.nd rfl (Or.inl rfl)) (fun _ _ _ _ _ => pts_nil) (fun _ _ _ _ _ => (pe_op op_add (pe_ix (ix_tupK (K := K)) (pv 0) pe_int (fun _ _ => rfl)) (pv 1))))))), ?_⟩
    have hb := okP_last ho
    walk_at "rd"
    refine ⟨a, c, s, b, rfl, hS, ho, ?_⟩
    walk_at "rd"
    refine ⟨a, c, s, b, rfl, hS, _, hS, _, rfl, _, rfl, _, rfl, Cmp.pureR (fun k => .int (c + (k : Int))) (by omega) (fun _ => rfl) ?_ ?_⟩
    · intro i H2 R hi s2 hR
      walk_at "rd"
      refine ⟨_, Same.seqT s2 hS, _, rfl, _, rfl, ?_⟩
      rw [Int.zero_add]
      exact hR H2 (Same.refl H2)
    · intro l H2 nl s2 h2
      refine q l H2 nl s2 ?_
      rw [h2]
      unfold cellsR
      rw [List.map_map]
      rfl
end

/-! ### lines.py -/
def linesOf (w c s b : Int) : List Int := (List.range (lastC c s b / w - c / w + 1).toNat).map fun (k : Nat) => c / w + (k : Int)
def linesD (w : Int) : List V → List Int
  | [.int c, .int s, .int b] => linesOf w c s b
  | _ => []
def okD (d : List V) : Prop := ∃ c s b, d = [.int c, .int s, .int b] ∧ okP c s b = true
def spLinesOk (K : PySem.W.Frag) : Sp := fun vs H Q _ => ∃ (a : Addr) (xs : List V) (ds : List (List V)) (w : Int), vs = [.ref a, .int w] ∧ SqL K H a xs ∧ Tups K H xs ds ∧ (∀ d ∈ ds, okD d) ∧ 1 ≤ w ∧ w ≤ 64 ∧ xs.length ≤ 100 ∧
  ∀ p H1, H p = none → Same H H1 → H1 p = some (.lst ((ds.flatMap (linesD w)).map V.int)) → Q (.ref p) H1
theorem linesOf_len {w c s b : Int} (h : okP c s b = true) (h1 : 1 ≤ w) : (linesOf w c s b).length ≤ 100 := by
  have hb := okP_last h
  unfold linesOf
  rw [List.length_map, List.length_range]
  have e : lastC c s b / w ≤ c / w + 64 := by
    have e1 : lastC c s b ≤ c + 64 * w := by omega
    have e2 := Int.ediv_le_ediv (c := w) (by omega) e1
    rw [Int.add_mul_ediv_right _ _ (by omega)] at e2
    exact e2
  omega
theorem flat_len {w : Int} (h1 : 1 ≤ w) : ∀ {ds : List (List V)}, (∀ d ∈ ds, okD d) → (ds.flatMap (linesD w)).length ≤ 100 * ds.length
  | [], _ => by simp
  | d :: r, h => by
    obtain ⟨c, s, b, rfl, ho⟩ := h d List.mem_cons_self
    have ih := flat_len (w := w) h1 (ds := r) fun x hx => h x (List.mem_cons_of_mem _ hx)
    have e := linesOf_len (w := w) ho h1
    rw [List.flatMap_cons, List.length_append, List.length_cons]
    show (linesOf w c s b).length + _ ≤ _
    omega
section
variable {P : Program} {w : World} {K : PySem.W.Frag} {mg : Str → Option Value} {base : Heap}
theorem ok_linesOk {f : Addr} {fd : FuncData} (F : Fun K "lines_of" "lines_of" s_lines_of f fd) (z_range : mg "range" = none) (c_WIDEST_LINE : ∃ t, mg "WIDEST_LINE" = some (.int 64 t)) (D_is_within : Dn P w K mg base CX0 2 "is_within" ["thing", "low", "high"] (spIsWithin K)) (D_cells_in : Dn P w K mg base CX0 4 "cells_in" ["place"] (spCellsIn K)) : FnOk P w K mg base CX0 5 f fd ["places", "wide"] (spLinesOk K) := by
  refine F.ok sc_lines_of (fun vs H Q E h => ?_) (fun cdv A outer s H vs Q E hr h => ?_)
  · obtain ⟨a, xs, ds, w, rfl, _⟩ := h
    rfl
  · obtain ⟨a, xs, ds, w, rfl, hS, hT, ho, w1, w2, hl, q⟩ := h
    refine ⟨_, (pss_cons (ps_if (pt_not (pt_val (pe_cd D_is_within (hr.mono (by decide)) (by rfl) pass0 (pa_cons (pv 1) (pa_cons pe_int (pa_cons (pe_gi (by rfl) c_WIDEST_LINE) pa_nil)))))) (pss_one ps_never) pss_nil)
      (pss_cons (ps_set (i := 2) sc_lines_of.nd rfl (by first | exact Or.inl rfl | exact Or.inr rfl) (pe_lst pa_nil))
      (pss_cons (ps_for PassesOwn.never rfl (pi_listK (pv 0) (K := K)) (pg_name (i := 3) sc_lines_of.nd rfl (by first | exact Or.inl rfl | exact Or.inr rfl)) (pss_cons (ps_set (i := 4) sc_lines_of.nd rfl (by first | exact Or.inl rfl | exact Or.inr rfl) (pe_cd D_cells_in (hr.mono (by decide)) (by rfl) pass0 (pa_cons (pv 3) pa_nil)))
      (pss_one (ps_for PassesOwn.never rfl (pi_rangeL2 (by rfl) z_range (pa_cons (pe_op op_fdivW (pe_ix (ix_listK (K := K)) (pv 4) pe_int (fun _ _ => rfl)) (pv 1)) (pa_cons (pe_op op_add (pe_op op_fdivW (pe_ix (ix_listK (K := K)) (pv 4) (pe_un un_neg pe_int) (fun _ _ => rfl)) (pv 1)) pe_int) pa_nil))) (pg_name (i := 5) sc_lines_of.nd rfl (by first | exact Or.inl rfl | exact Or.inr rfl)) (pss_one (ps_expr (pe_bmK (K := K) PySem.F.plainAttrs_list PySem.F.slot_list_append PySem.F.type_list_append mt_append (pv 2) (pa_cons (pv 5) pa_nil))))))))
      (pss_one (ps_ret (pv 2)))))), ?_⟩
    walk_at "rd"
    refine ⟨.int w, "int", 1, 64, rfl, thg_int, _, rfl, iteN ?_ ⟨by decide, New.intro fun p H1 np s1 h1 => ⟨⟨_, s1.seq hS⟩, ?_⟩⟩⟩
    · show ¬ (decide (1 ≤ w) && decide (w ≤ 64)) = false
      rw [decide_eq_true w1, decide_eq_true w2]
      decide
    refine Loop.list (xs := xs) (fun i σ H2 => ∃ x1 x2 x3, σ = [some (.ref a), some (.int w), some (.ref p), x1, x2, x3] ∧ Same H H2 ∧ H2 p = some (.lst (((ds.take i).flatMap (linesD w)).map V.int))) ⟨none, none, none, rfl, s1, h1⟩ ?_ ?_ ?_
    · rintro i σ H2 _ ⟨x1, x2, x3, rfl, s2, h2⟩
      exact s2.seq hS
    · rintro i x σ H2 hx ⟨x1, x2, x3, rfl, s2, h2⟩
      obtain ⟨t, d, hd, rfl, hd2⟩ := hT.get hx
      obtain ⟨c, s, b, rfl, okd⟩ := ho d (List.mem_of_getElem? hd)
      have hb := okP_last okd
      have hi : i < ds.length := (List.getElem?_eq_some_iff.mp hd).1
      have hlen := hT.len
      walk_at "rd"
      refine ⟨t, c, s, b, rfl, Same.seqT s2 hd2, okd, fun u H3 nu s3 h3 => ?_⟩
      walk_at "rd"
      have at0 : atI ((cellsR c s b).map V.int) 0 = some (.int c) := by
        refine at_of (j := 0) rfl (at_int ?_)
        unfold cellsR
        rw [List.getElem?_map, List.getElem?_range (by omega)]
        show some (c + ((0 : Nat) : Int)) = some c
        rw [Int.natCast_zero, Int.add_zero]
      have atL : atI ((cellsR c s b).map V.int) (-1) = some (.int (lastC c s b)) := by
        have e : (lastC c s b - c + 1).toNat = (lastC c s b - c).toNat + 1 := by omega
        unfold cellsR
        rw [e, List.range_succ, List.map_append, List.map_append, List.map_cons, List.map_nil, List.map_cons, List.map_nil, atI_last]
        congr 2
        omega
      have cw : ∀ y : Int, CDivW y w := fun y => wide_div (b := 200) (by omega) (by omega) (by decide) (by decide)
      refine ⟨_, seq_of h3, _, at0, _, rfl, cw _, _, seq_of h3, _, atL, _, rfl, cw _, ?_⟩
      have en : (lastC c s b / w + 1 - c / w).toNat = (lastC c s b / w - c / w + 1).toNat := by congr 1; omega
      rw [en]
      have eflat : (ds.take (i + 1)).flatMap (linesD w) = (ds.take i).flatMap (linesD w) ++ linesOf w c s b := by
        rw [take_snoc hd, List.flatMap_append]
        simp [linesD]
      refine Loop.range (fun k σ H4 => ∃ y, σ = [some (.ref a), some (.int w), some (.ref p), some (.ref t), some (.ref u), y] ∧ Same H H4 ∧ H4 p = some (.lst (((ds.take i).flatMap (linesD w) ++ (linesOf w c s b).take k).map V.int))) ⟨_, rfl, s2.trans s3, by rw [List.take_zero, List.append_nil]; exact s3 _ _ h2⟩ ?_ ?_
      · rintro k σ H4 hk ⟨y, rfl, s4, h4⟩
        walk_at "rd"
        have hz : ((ds.take i).flatMap (linesD w) ++ (linesOf w c s b).take k).length ≤ 20000 := by
          have e1 := flat_len (w := w) w1 (ds := ds.take i) fun d hd => ho d (List.mem_of_mem_take hd)
          have e2 := linesOf_len (w := w) okd w1
          rw [List.length_append, List.length_take]
          rw [List.length_take] at e1
          omega
        have hk2 : (linesOf w c s b)[k]? = some (c / w + (k : Int)) := by
          unfold linesOf
          rw [List.getElem?_map, List.getElem?_range hk]
          rfl
        refine ⟨tyv_list (seq_of h4), _, h4, Nat.lt_of_le_of_lt (by rw [List.length_map]; exact hz) (by decide), Upd.intro fun H5 o5 h5 => ⟨Same.off s4 np o5, ?_⟩⟩
        rw [h5, take_snoc hk2, ← List.append_assoc, List.map_append (l₂ := [c / w + (k : Int)])]
        rfl
      · rintro σ H4 ⟨y, rfl, s4, h4⟩
        refine ⟨⟨_, _, _, rfl⟩, s4, ?_⟩
        rw [h4, eflat, List.take_of_length_le (l := linesOf w c s b) (by unfold linesOf; rw [List.length_map, List.length_range]; exact Nat.le_refl _)]
    · rintro σ H2 ⟨x1, x2, x3, rfl, s2, h2⟩
      walk_at "rd"
      rw [hT.len, List.take_length] at h2
      exact q p H2 np s2 h2
end

/-! ### the law -/
def spPlace : Sp := fun vs H Q _ => ∃ (z : Int), vs = [.int z] ∧ ∀ p H1 d, H p = none → Same H H1 → H1 p = some (.tup d) → okD d → Q (.ref p) H1
def spDue (K : PySem.W.Frag) : Sp := fun vs H Q _ => ∃ (a : Addr) (c s b w : Int), vs = [.ref a, .int w] ∧ SqT K H a [.int c, .int s, .int b] ∧ okP c s b = true ∧ 1 ≤ w ∧ w ≤ 64 ∧ ∀ p H1, H p = none → Same H H1 → H1 p = some (.lst ((linesOf w c s b).map V.int)) → Q (.ref p) H1
def spSame (K : PySem.W.Frag) : Sp := fun vs H Q _ => ∃ (a b : Addr) (xs ys : List Int), vs = [.ref a, .ref b] ∧ SqL K H a (xs.map V.int) ∧ SqL K H b (ys.map V.int) ∧ xs.length ≤ 20000 ∧ xs = ys ∧ ∀ H1, Same H H1 → Q (.bl true) H1
def spLaw (K : PySem.W.Frag) : Sp := fun vs H Q _ => ∃ (a : Addr) (ns : List Int), vs = [.ref a] ∧ SqL K H a (ns.map V.int) ∧ ns.length ≤ 63 ∧ ∀ H', Q (.bl true) H'
section
variable {P : Program} {w : World} {K : PySem.W.Frag} {mg : Str → Option Value} {base : Heap}
theorem ok_place {f : Addr} {fd : FuncData} (F : Fun K "_law_place" "_law_place" s_law_place f fd) (D_law_drawn : Dn P w K mg base CX0 1 "_law_drawn" ["_law_cell", "_law_sizes"] (spDrawn K)) : FnOk P w K mg base CX0 2 f fd ["_law_cell"] spPlace := by
  refine F.ok sc_law_place (fun vs H Q E h => ?_) (fun cdv A outer s H vs Q E hr h => ?_)
  · obtain ⟨z, rfl, _⟩ := h
    rfl
  · obtain ⟨z, rfl, q⟩ := h
    refine ⟨_, (pss_cons (ps_set (i := 1) sc_law_place.nd rfl (by first | exact Or.inl rfl | exact Or.inr rfl) (pe_cd D_law_drawn (hr.mono (by decide)) (by rfl) pass0 (pa_cons (pv 0) (pa_cons (pe_lst (pa_cons pe_int (pa_cons pe_int (pa_cons (pe_op op_pow pe_int pe_int) (pa_cons pe_int (pa_cons pe_int (pa_cons pe_int pa_nil))))))) pa_nil))))
      (pss_cons (ps_set (i := 2) sc_law_place.nd rfl (by first | exact Or.inl rfl | exact Or.inr rfl) (pe_ifExp (pt_cmpR op_eq (pe_ix (ix_listK (K := K)) (pv 1) pe_int (fun _ _ => rfl)) pe_int (nomark _)) (pe_ix (ix_listK (K := K)) (pv 1) pe_int (fun _ _ => rfl)) (pe_ix (ix_listK (K := K)) (pv 1) pe_int (fun _ _ => rfl))))
      (pss_cons (ps_if (pt_cmpR op_eq (pe_ix (ix_listK (K := K)) (pv 1) pe_int (fun _ _ => rfl)) pe_int (nomark _)) (pss_one (ps_ret (pe_tup (pa_cons (pv 2) (pa_cons (pe_op op_mul pe_int (pe_ix (ix_listK (K := K)) (pv 1) pe_int (fun _ _ => rfl))) (pa_cons pe_int pa_nil)))))) pss_nil)
      (pss_cons (ps_if (pt_cmpR op_eq (pe_ix (ix_listK (K := K)) (pv 1) pe_int (fun _ _ => rfl)) pe_int (nomark _)) (pss_one (ps_ret (pe_tup (pa_cons (pv 2) (pa_cons pe_int (pa_cons (pe_op op_add pe_int (pe_op op_mul pe_int (pe_op op_modN (pe_ix (ix_listK (K := K)) (pv 1) pe_int (fun _ _ => rfl)) pe_int))) pa_nil)))))) pss_nil)
      (pss_one (ps_ret (pe_tup (pa_cons (pv 2) (pa_cons pe_int (pa_cons (pe_op op_add pe_int (pe_op op_mul pe_int (pe_ix (ix_listK (K := K)) (pv 1) pe_int (fun _ _ => rfl)))) pa_nil)))))))))), ?_⟩
    walk_at "rd"
    refine ⟨⟨by decide, by decide, by decide⟩, by decide, New.intro fun b H1 nb s1 h1 => ⟨z, b, [3, 301, 10 ^ 29, 4, 64, 4], rfl, seq_of h1, by decide, by decide, fun p H2 ws np s2 h2 dr => ?_⟩⟩
    obtain ⟨w0, w1, w2, w3, w4, w5, rfl, l0, l1, l2, l3, l4, l5⟩ : ∃ w0 w1 w2 w3 w4 w5 : Int, ws = [w0, w1, w2, w3, w4, w5] ∧ (0 ≤ w0 ∧ w0 < 3) ∧ (0 ≤ w1 ∧ w1 < 301) ∧ (0 ≤ w2 ∧ w2 < 10 ^ 29) ∧ (0 ≤ w3 ∧ w3 < 4) ∧ (0 ≤ w4 ∧ w4 < 64) ∧ (0 ≤ w5 ∧ w5 < 4) := by
      cases dr with | cons a0 dr => cases dr with | cons a1 dr => cases dr with | cons a2 dr => cases dr with | cons a3 dr => cases dr with | cons a4 dr => cases dr with | cons a5 dr =>
      cases dr
      exact ⟨_, _, _, _, _, _, rfl, a0, a1, a2, a3, a4, a5⟩
    walk_at "rd"
    have S2 : SqL K H2 p [.int w0, .int w1, .int w2, .int w3, .int w4, .int w5] := seq_of h2
    have s12 : Same H H2 := s1.trans s2
    have fin : ∀ d t H3, H2 t = none → Same H2 H3 → H3 t = some (.tup d) → okD d → Q (.ref t) H3 := fun d t H3 nt s3 h3 od => q t H3 d (s12.free nt) (s12.trans s3) h3 od
    have tg : ∀ c v : Int, 0 ≤ c → 0 ≤ v → v < 4 → okD [.int c, .int (2 * v), .int 2] := fun c v c0 v0 v4 => ⟨c, _, _, rfl, by
      unfold okP
      rw [if_pos rfl]
      simp only [Bool.and_eq_true, decide_eq_true_eq]
      omega⟩
    have wh : ∀ c v : Int, 0 ≤ c → 0 ≤ v → v < 64 → okD [.int c, .int 0, .int (8 + 8 * v)] := fun c v c0 v0 v4 => ⟨c, _, _, rfl, by
      unfold okP
      rw [if_neg (by omega)]
      simp only [Bool.and_eq_true, decide_eq_true_eq, true_and]
      omega⟩
    have cm : ∀ v : Int, CMul 8 v := fun v => .inl ⟨by decide, by decide⟩
    have f1 := Int.fmod_nonneg_of_pos w4 (show (0 : Int) < 4 by decide)
    have f2 := Int.fmod_lt_of_pos w4 (show (0 : Int) < 4 by decide)
    refine ⟨_, S2, _, rfl, rfl, ite2 (fun _ => ?_) (fun _ => ?_)⟩
    all_goals
      refine ⟨_, S2, _, rfl, _, S2, _, rfl, rfl, ite2 (fun _ => ?_) (fun _ => ⟨_, S2, _, rfl, rfl, ite2 (fun _ => ?_) (fun _ => ?_)⟩)⟩
      · exact ⟨_, S2, _, rfl, _, rfl, .inl ⟨by decide, by decide⟩, by decide, New.intro fun t H3 nt s3 h3 => fin _ t H3 nt s3 h3 (tg _ _ (by omega) l5.1 l5.2)⟩
      · exact ⟨_, S2, _, rfl, _, rfl, by decide, cm _, by decide, New.intro fun t H3 nt s3 h3 => fin _ t H3 nt s3 h3 (wh _ _ (by omega) f1 (by omega))⟩
      · exact ⟨_, S2, _, rfl, _, rfl, cm _, by decide, New.intro fun t H3 nt s3 h3 => fin _ t H3 nt s3 h3 (wh _ _ (by omega) l4.1 l4.2)⟩
theorem ok_due {f : Addr} {fd : FuncData} (F : Fun K "_law_due" "_law_due" s_law_due f fd) (z_range : mg "range" = none) : FnOk P w K mg base CX0 1 f fd ["_law_place_here", "_law_wide"] (spDue K) := by
  refine F.ok sc_law_due (fun vs H Q E h => ?_) (fun cdv A outer s H vs Q E hr h => ?_)
  · obtain ⟨a, c, s, b, w, rfl, _⟩ := h
    rfl
  · obtain ⟨a, c, s, b, w, rfl, hS, ho, w1, w2, q⟩ := h
    refine ⟨_, (pss_cons (ps_set (i := 2) sc_law_due.nd rfl (by first | exact Or.inl rfl | exact Or.inr rfl) (pe_ifExp (pt_cmpR op_eq (pe_ix (ix_tupK (K := K)) (pv 0) pe_int (fun _ _ => rfl)) pe_int (nomark _)) pe_int (pe_op op_fdivW (pe_ix (ix_tupK (K := K)) (pv 0) pe_int (fun _ _ => rfl)) pe_int)))
      (pss_cons (ps_set (i := 3) sc_law_due.nd rfl (by first | exact Or.inl rfl | exact Or.inr rfl) (pe_op op_fdivW (pe_ix (ix_tupK (K := K)) (pv 0) pe_int (fun _ _ => rfl)) (pv 1)))
      (pss_one (ps_ret (pe_lc (own := [("_law_k", 4)]) (g := gName 4) (tt := tYes) rfl sc_law_due.nd (pi_rangeL1 (by rfl) z_range (pa_cons (pe_op op_add (pe_op op_sub (pe_op op_fdivW (pe_op op_sub (pe_op op_add (pe_ix (ix_tupK (K := K)) (pv 0) pe_int (fun _ _ => rfl)) (pv 2)) pe_int) (pv 1)) (pv 3)) pe_int) pa_nil)) (blkOk_by (own := [("_law_k", 4)]) (N := ["_law_place_here", "_law_wide", "_law_cells", "_law_first", "_law_k"]) (sc := defScope s_law_due) (by decide +kernel)) (fun _ _ _ _ _ => pg_name (i := 4) sc_law_due.nd rfl (Or.inl rfl)) (fun _ _ _ _ _ => pts_nil) (fun _ _ _ _ _ => (pe_op op_add (pv 3) (pv 4)))))))), ?_⟩
    walk_at "rd"
    have hb := okP_last ho
    have cw : ∀ y : Int, CDivW y w := fun y => wide_div (b := 200) (by omega) (by omega) (by decide) (by decide)
    have e8 : ∀ n : Int, b ≠ 2 → c + b / 8 - 1 = lastC c s b := fun _ h => by
      unfold okP at ho
      rw [if_neg h] at ho
      simp only [Bool.and_eq_true, decide_eq_true_eq] at ho
      unfold lastC
      omega
    have e2 : b = 2 → c + 1 - 1 = lastC c s b := fun h => by
      unfold okP at ho
      rw [if_pos h] at ho
      simp only [Bool.and_eq_true, decide_eq_true_eq] at ho
      unfold lastC
      omega
    have fin : ∀ (m : Int) (σ0 : Option V), Cmp (Itr 0 (lastC c s b / w - c / w + 1).toNat) (gName 4) tYes (tOp (rI0 fun i j => V.int (i + j)) (tVar 3) (tVar 4)) [4] [some (V.ref a), some (V.int w), σ0, some (V.int (c / w)), none] H Q := fun m σ0 => by
      refine Cmp.pureR (fun k => .int (c / w + (k : Int))) ?_ (fun _ => rfl) ?_ ?_
      · have := linesOf_len (w := w) ho w1
        unfold linesOf at this
        rw [List.length_map, List.length_range] at this
        omega
      · intro i H2 R hi s2 hR
        walk_at "rd"
        rw [Int.zero_add]
        exact hR H2 (Same.refl H2)
      · intro l H2 nl s2 h2
        refine q l H2 nl s2 ?_
        rw [h2]
        unfold linesOf
        rw [List.map_map]
        rfl
    refine ⟨_, hS, _, rfl, rfl, ite2 (fun e => ?_) (fun e => ?_)⟩
    · refine ⟨_, hS, _, rfl, _, rfl, cw _, _, hS, _, rfl, _, rfl, cw _, ?_⟩
      rw [e2 (V.int.inj e)]
      exact fin 0 _
    · refine ⟨_, hS, _, rfl, _, rfl, ⟨by decide, by decide⟩, _, hS, _, rfl, _, rfl, cw _, _, hS, _, rfl, _, rfl, cw _, ?_⟩
      rw [e8 0 fun h => e (congrArg V.int h)]
      exact fin 0 _
theorem ok_same {f : Addr} {fd : FuncData} (F : Fun K "_law_same" "_law_same" s_law_same f fd) (z_isinstance : mg "isinstance" = none) (z_list : mg "list" = none) (z_int : mg "int" = none) (z_bool : mg "bool" = none) : FnOk P w K mg base CX0 1 f fd ["_law_found", "_law_due_here"] (spSame K) := by
  refine F.ok sc_law_same (fun vs H Q E h => ?_) (fun cdv A outer s H vs Q E hr h => ?_)
  · obtain ⟨a, b, xs, ys, rfl, _⟩ := h
    rfl
  · obtain ⟨a, b, xs, ys, rfl, hA, hB, hl, rfl, q⟩ := h
    refine ⟨_, (pss_cons (ps_if (PW.pt (pw_or (pt_not (pt_val (pe_callB (call_isiK' (K := K)) (by rfl) z_isinstance (by decide +kernel) (pa_cons (pv 0) (pa_cons (pe_bltn (v := V.ty "list") (u := Value.type "list") (by rfl) z_list (by decide +kernel) rfl) pa_nil))))) (pw_or1 (pt_cmpR (op_neDK hr.units (K := K)) (pv 0) (pv 1) (nomark _))))) (pss_one (ps_ret pe_bl)) pss_nil)
      (pss_one (ps_ret (pe_cmpR (op_eqDK hr.units (K := K)) (pe_lc (own := [("_law_line", 2)]) (g := gName 2) rfl sc_law_same.nd (pi_listK (pv 0) (K := K)) (blkOk_by (own := [("_law_line", 2)]) (N := ["_law_found", "_law_due_here", "_law_line"]) (sc := defScope s_law_same) (by decide +kernel)) (fun _ _ _ _ _ => pg_name (i := 2) sc_law_same.nd rfl (Or.inl rfl)) (fun _ _ _ _ _ => (pts_one (PW.pt (pw_or (pt_not (pt_val (pe_callB (call_isiK' (K := K)) (by rfl) z_isinstance (by decide +kernel) (pa_cons (pv 2) (pa_cons (pe_bltn (v := V.ty "int") (u := Value.type "int") (by rfl) z_int (by decide +kernel) rfl) pa_nil))))) (pw_or1 (pt_val (pe_callB (call_isiK' (K := K)) (by rfl) z_isinstance (by decide +kernel) (pa_cons (pv 2) (pa_cons (pe_bltn (v := V.ty "bool") (u := Value.type "bool") (by rfl) z_bool (by decide +kernel) rfl) pa_nil))))))))) (fun _ _ _ _ _ => (pv 2))) (pe_lst pa_nil) (nomark _))))), ?_⟩
    walk_at "rd"
    refine isiT (thg_seq hA) (by decide) (iteN (by decide) (ne_ints hA hB ⟨_, rfl, iteN (by rw [decide_eq_true rfl]; decide) ⟨⟨_, hA⟩, ?_⟩⟩))
    refine Cmp.pureF (fun _ => false) (fun x => x) hA (by rw [List.length_map]; omega) (fun _ => rfl) ?_ ?_ ?_
    · intro x H2 R hx s2 hR
      obtain ⟨z, hz, rfl⟩ := List.mem_map.mp hx
      walk_at "rd"
      exact isiT thg_int (by decide) (iteN (by decide) (isiT thg_int (by decide) (hR H2 (Same.refl H2))))
    · intro x H2 R hx hp
      cases hp
    · intro l H2 nl s2 h2
      refine ⟨by decide, New.intro fun t H3 nt s3 h3 => ?_⟩
      rw [List.filter_eq_nil_iff.mpr (fun _ _ => Bool.false_ne_true)] at h2
      exact eq_ints (ns := []) (ms := []) (seq_of (s3 _ _ h2)) (seq_of h3) (q H3 (s2.trans s3))
theorem ok_law {f : Addr} {fd : FuncData} (F : Fun K "law" "law" s_law f fd) (z_len : mg "len" = none) (z_list : mg "list" = none)
    (D_law_drawn : Dn P w K mg base CX0 1 "_law_drawn" ["_law_cell", "_law_sizes"] (spDrawn K)) (D_law_place : Dn P w K mg base CX0 2 "_law_place" ["_law_cell"] spPlace) (D_law_due : Dn P w K mg base CX0 1 "_law_due" ["_law_place_here", "_law_wide"] (spDue K))
    (D_law_same : Dn P w K mg base CX0 1 "_law_same" ["_law_found", "_law_due_here"] (spSame K)) (D_lines_of : Dn P w K mg base CX0 5 "lines_of" ["places", "wide"] (spLinesOk K)) : FnOk P w K mg base CX0 6 f fd ["_law_script"] (spLaw K) := by
  refine F.ok sc_law (fun vs H Q E h => ?_) (fun cdv A outer s H vs Q E hr h => ?_)
  · obtain ⟨a, ns, rfl, _⟩ := h
    rfl
  · obtain ⟨a, ns, rfl, hS, hl, q⟩ := h
    refine ⟨_, (pss_cons (ps_setLc (i := 1) (own := [("_law_cell", 2)]) (g := gName 2) (tt := tYes) rfl sc_law.nd rfl rfl (sw_true rfl rfl rfl (by decide +kernel)) (pi_listK (pe_op (op_catS (K := K)) (pe_slice (sl_listK (K := K)) (pv 0) po_none (po_some pe_int)) (pe_lst (pa_cons (pe_callB (call_lenR (K := K)) (by rfl) z_len (by decide +kernel) (pa_cons (pv 0) pa_nil)) pa_nil))) (K := K)) (blkOk_by (own := [("_law_cell", 2)]) (N := ["_law_script", "_law_places", "_law_cell", "_law_wide", "_law_due_here", "_law_place_here", "_law_handed", "_law_told"]) (sc := defScope s_law) (by decide +kernel)) (fun _ _ _ _ _ => pg_name (i := 2) sc_law.nd rfl (Or.inl rfl)) (fun _ _ _ _ _ => pts_nil) (fun _ _ _ _ _ => (pe_cd D_law_place (hr.mono (by decide)) (by rfl) pass0 (pa_cons (pv 2) pa_nil))))
      (pss_cons (ps_set (i := 1) sc_law.nd rfl (by first | exact Or.inl rfl | exact Or.inr rfl) (pe_op (op_catS (K := K)) (pv 1) (pe_slice (sl_listK (K := K)) (pv 1) po_none (po_some pe_int))))
      (pss_cons (ps_set (i := 3) sc_law.nd rfl (by first | exact Or.inl rfl | exact Or.inr rfl) (pe_op op_add pe_int (pe_ix (ix_listK (K := K)) (pe_cd D_law_drawn (hr.mono (by decide)) (by rfl) pass0 (pa_cons (pe_ix (ix_listK (K := K)) (pe_op (op_catS (K := K)) (pv 0) (pe_lst (pa_cons pe_int pa_nil))) pe_int (fun _ _ => rfl)) (pa_cons (pe_lst (pa_cons pe_int (pa_cons pe_int pa_nil))) pa_nil))) pe_int (fun _ _ => rfl))))
      (pss_cons (ps_set (i := 4) sc_law.nd rfl (by first | exact Or.inl rfl | exact Or.inr rfl) (pe_lst pa_nil))
      (pss_cons (ps_for PassesOwn.never rfl (pi_listK (pv 1) (K := K)) (pg_name (i := 5) sc_law.nd rfl (by first | exact Or.inl rfl | exact Or.inr rfl)) (pss_cons (ps_set (i := 4) sc_law.nd rfl (by first | exact Or.inl rfl | exact Or.inr rfl) (pe_op (op_catS (K := K)) (pv 4) (pe_cd D_law_due (hr.mono (by decide)) (by rfl) pass0 (pa_cons (pv 5) (pa_cons (pv 3) pa_nil)))))
      (pss_one (ps_if (pt_not (pt_val (pe_cd D_law_same (hr.mono (by decide)) (by rfl) pass0 (pa_cons (pe_cd D_lines_of (hr.mono (by decide)) (by rfl) pass0 (pa_cons (pe_lst (pa_cons (pv 5) pa_nil)) (pa_cons (pv 3) pa_nil))) (pa_cons (pe_cd D_law_due (hr.mono (by decide)) (by rfl) pass0 (pa_cons (pv 5) (pa_cons (pv 3) pa_nil))) pa_nil))))) (pss_one (ps_ret pe_bl)) pss_nil))))
      (pss_cons (ps_set (i := 6) sc_law.nd rfl (by first | exact Or.inl rfl | exact Or.inr rfl) (pe_callTy (call_listR (K := K)) (by rfl) z_list (by decide +kernel) (pa_cons (pv 1) pa_nil)))
      (pss_cons (ps_set (i := 7) sc_law.nd rfl (by first | exact Or.inl rfl | exact Or.inr rfl) (pe_cd D_lines_of (hr.mono (by decide)) (by rfl) pass0 (pa_cons (pv 6) (pa_cons (pv 3) pa_nil))))
      (pss_cons (ps_if (pt_not (pt_val (pe_cd D_law_same (hr.mono (by decide)) (by rfl) pass0 (pa_cons (pv 7) (pa_cons (pv 4) pa_nil))))) (pss_one (ps_ret pe_bl)) pss_nil)
      (pss_cons (ps_expr (pe_bmK (K := K) PySem.F.plainAttrs_list PySem.F.slot_list_append PySem.F.type_list_append mt_append (pv 7) (pa_cons pe_int pa_nil)))
      (pss_cons (ps_if (PW.pt (pw_or (pt_not (pt_val (pe_cd D_law_same (hr.mono (by decide)) (by rfl) pass0 (pa_cons (pe_cd D_lines_of (hr.mono (by decide)) (by rfl) pass0 (pa_cons (pv 6) (pa_cons (pv 3) pa_nil))) (pa_cons (pv 4) pa_nil))))) (pw_or1 (pt_cmpR (op_neDK hr.units (K := K)) (pv 6) (pv 1) (nomark _))))) (pss_one (ps_ret pe_bl)) pss_nil)
      (pss_one (ps_ret (pe_and (pe_cd D_law_same (hr.mono (by decide)) (by rfl) pass0 (pa_cons (pe_cd D_lines_of (hr.mono (by decide)) (by rfl) pass0 (pa_cons (pe_lst pa_nil) (pa_cons (pv 3) pa_nil))) (pa_cons (pe_lst pa_nil) pa_nil))) (pe_one (pe_cmpR op_notN (pe_cd D_lines_of (hr.mono (by decide)) (by rfl) pass0 (pa_cons (pv 6) (pa_cons (pe_op op_sub pe_int (pv 3)) pa_nil))) pe_non (nomark _)))))))))))))))), ?_⟩
    walk_at "rd"
    refine ⟨_, hS, New.intro fun p1 H1 n1 s1 h1 => ⟨_, .inl (s1.seq hS), by decide, New.intro fun p2 H2 n2 s2 h2 => ⟨_, seq_of (s2 _ _ h1), _, seq_of h2, ?_, New.intro fun p3 H3 n3 s3 h3 => ?_⟩⟩⟩
    · refine Nat.le_trans (Nat.add_le_add_right (cutV_length _ _ _) _) ?_
      rw [List.length_map]
      exact sz100 (by rw [List.length_singleton]; omega)
    have S3 : Same H H3 := s1.trans (s2.trans s3)
    rw [show (some 12 : Option Int) = some ((12 : Nat) : Int) from rfl, cut_to, ← List.map_take, List.length_map, show [V.int (ns.length : Int)] = [(ns.length : Int)].map V.int from rfl, ← List.map_append] at h3
    generalize hL : ns.take 12 ++ [(ns.length : Int)] = L at h3
    have hL13 : L.length ≤ 13 := by
      rw [← hL, List.length_append, List.length_take, List.length_singleton]
      omega
    have hL1 : 1 ≤ L.length := by
      rw [← hL, List.length_append, List.length_singleton]
      omega
    clear hL
    refine ⟨⟨_, seq_of h3⟩, Cmp.list (xs := L.map V.int) (fun D i acc H4 => H3 D = none ∧ Same H3 H4 ∧ H4 D = some (.lst acc) ∧ ∃ ds, Tups K H4 acc ds ∧ (∀ d ∈ ds, okD d) ∧ acc.length = i) (fun D H4 nD s4 h4 => ⟨nD, s4, h4, [], .nil, fun d hd => (nomatch hd), rfl⟩) (fun D i acc H4 _ ⟨_, s4, _⟩ => s4.seq (seq_of h3)) ?_ ?_⟩
    · rintro D i x acc H4 Nx hx ha ⟨nD, s4, h4, ds, t4, o4, len⟩ hN
      obtain ⟨z, hz, rfl⟩ := int_at hx
      have hi : i < L.length := (List.getElem?_eq_some_iff.mp hz).1
      walk_at "rd"
      refine ⟨z, rfl, fun t H5 d nt s5 h5 od => push hN ha (s5 _ _ h4) (by omega) fun H6 o6 h6 => ⟨nD, Same.off (s4.trans s5) nD o6, h6, ds ++ [d], ?_, ?_, ?_⟩⟩
      · exact Tups.off (Tups.append (t4.same s5) (.cons ⟨t, rfl, seqT_of h5⟩ .nil)) o6 (s5 _ _ h4)
      · intro e he
        rcases List.mem_append.mp he with he | he
        · exact o4 e he
        · rw [List.mem_singleton.mp he]
          exact od
      · rw [List.length_append, len]
        rfl
    · rintro D acc H4 hal ⟨nD, s4, h4, ds, t4, o4, len⟩
      rw [List.length_map] at len
      refine ⟨D, rfl, _, seq_of h4, New.intro fun p5 H5 n5 s5 h5 => ⟨D, rfl, _, seq_of (s5 _ _ h4), _, seq_of h5, ?_, New.intro fun p6 H6 n6 s6 h6 => ?_⟩⟩
      · refine Nat.le_trans (Nat.add_le_add_left (cutV_length _ _ _) _) ?_
        rw [len]
        exact Nat.le_trans (Nat.add_le_add hL13 hL13) (by decide)
      rw [show (some 1 : Option Int) = some ((1 : Nat) : Int) from rfl, cut_to] at h6
      have t6 : Tups K H6 (acc ++ acc.take 1) (ds ++ ds.take 1) := ((t4.append (t4.take 1)).same s5).same s6
      have o6 : ∀ d ∈ ds ++ ds.take 1, okD d := fun d hd => (List.mem_append.mp hd).elim (o4 d) fun hd => o4 d (List.mem_of_mem_take hd)
      have l6 : (acc ++ acc.take 1).length ≤ 14 := by
        rw [List.length_append, List.length_take]
        omega
      generalize acc ++ acc.take 1 = ps at h6 t6 l6
      generalize ds ++ ds.take 1 = es at t6 o6
      have S6 : Same H H6 := S3.trans (s4.trans (s5.trans s6))
      refine ⟨by decide, New.intro fun p7 H7 n7 s7 h7 => ⟨_, (S6.trans s7).seq hS, ?_⟩⟩
      obtain ⟨z, hz⟩ := head_int ns 7
      refine ⟨_, seq_of h7, sz100 (by rw [List.length_map, List.length_singleton]; omega), New.intro fun p8 H8 n8 s8 h8 => ⟨_, seq_of h8, _, hz, by decide, New.intro fun p9 H9 n9 s9 h9 => ?_⟩⟩
      refine ⟨z, p9, [5, 64], rfl, seq_of h9, by decide, by decide, fun pa Ha ws na sa ha dr => ?_⟩
      obtain ⟨v0, w, rfl, hw0, hw1⟩ : ∃ v0 w : Int, ws = [v0, w] ∧ 0 ≤ w ∧ w < 64 := by
        cases dr with | cons a0 dr => cases dr with | cons a1 dr =>
        cases dr
        exact ⟨_, _, rfl, a1⟩
      refine ⟨pa, rfl, _, seq_of ha, _, rfl, _, rfl, by decide, New.intro fun pb Hb nb sb hb => ?_⟩
      have S6b : Same H6 Hb := s7.trans (s8.trans (s9.trans (sa.trans sb)))
      refine ⟨⟨_, seq_of (S6b _ _ h6)⟩, Loop.list (xs := ps) (fun i σ H' => ∃ dq x5, σ = [some (.ref a), some (.ref p6), none, some (.int (1 + w)), some (.ref dq), x5, none, none] ∧ Same H6 H' ∧ H' dq = some (.lst (((es.take i).flatMap (linesD (1 + w))).map V.int))) ⟨pb, none, rfl, S6b, hb⟩ ?_ ?_ ?_⟩
      · rintro i σ H' _ ⟨dq, x5, rfl, s', _⟩
        exact s'.seq (seq_of h6)
      · rintro i x σ H' hx ⟨dq, x5, rfl, s', hq⟩
        obtain ⟨t, d, hd, rfl, hS'⟩ := t6.get hx
        obtain ⟨c, s, b, rfl, okd⟩ := o6 d (List.mem_of_getElem? hd)
        have hi : i < es.length := (List.getElem?_eq_some_iff.mp hd).1
        have el := t6.len
        walk_at "rd"
        refine ⟨t, c, s, b, 1 + w, rfl, Same.seqT s' hS', okd, by omega, by omega, fun pc Hc nc sc hc => ?_⟩
        walk_at "rd"
        have fl := flat_len (w := 1 + w) (by omega) (ds := es.take i) fun d hd => o6 d (List.mem_of_mem_take hd)
        have ll := linesOf_len (w := 1 + w) okd (by omega)
        rw [List.length_take] at fl
        refine ⟨_, seq_of (sc _ _ hq), _, seq_of hc, sz100 (by rw [List.length_map, List.length_map]; omega), New.intro fun pd Hd nd sd hd' => ?_⟩
        have Sd : Same H6 Hd := s'.trans (sc.trans sd)
        refine ⟨by decide, New.intro fun pe He ne se he => ?_⟩
        have Se : Same H6 He := Sd.trans se
        refine ⟨pe, [.ref t], [[.int c, .int s, .int b]], 1 + w, rfl, seq_of he, .cons ⟨t, rfl, Same.seqT Se hS'⟩ .nil, fun d hd => ⟨c, s, b, List.mem_singleton.mp hd, okd⟩, by omega, by omega, by rw [List.length_singleton]; decide, fun pf Hf nf sf hf => ?_⟩
        refine ⟨t, c, s, b, 1 + w, rfl, Same.seqT (Se.trans sf) hS', okd, by omega, by omega, fun pg Hg ng sg hg => ?_⟩
        walk_at "rd"
        have e1 : [[V.int c, V.int s, V.int b]].flatMap (linesD (1 + w)) = linesOf (1 + w) c s b := by
          rw [List.flatMap_cons, List.flatMap_nil, List.append_nil]
          rfl
        rw [e1] at hf
        refine ⟨pf, pg, _, _, rfl, seq_of (sg _ _ hf), seq_of hg, by omega, rfl, fun Hh sh => ⟨_, rfl, iteN (by decide) ?_⟩⟩
        refine ⟨Se.trans (sf.trans (sg.trans sh)), ?_⟩
        rw [sh _ _ (sg _ _ (sf _ _ (se _ _ hd'))), take_snoc hd, List.flatMap_append, List.map_append, List.flatMap_cons, List.flatMap_nil, List.append_nil]
        rfl
      · rintro σ H' ⟨dq, x5, rfl, s', hq⟩
        rw [t6.len, List.take_length] at hq
        walk_at "rd"
        have hp6 := s' _ _ h6
        have fl := flat_len (w := 1 + w) (by omega) o6
        have el := t6.len
        refine ⟨_, .inl (seq_of hp6), New.intro fun g Hc nc sc hc => ?_⟩
        have Tc : Tups K Hc ps es := (t6.same s').same sc
        refine ⟨g, ps, es, 1 + w, rfl, seq_of hc, Tc, o6, by omega, by omega, by omega, fun t Hd nd sd hd => ?_⟩
        have hqd := sd _ _ (sc _ _ hq)
        have P6d := sd _ _ (sc _ _ hp6)
        refine ⟨t, dq, _, _, rfl, seq_of hd, seq_of hqd, by omega, rfl, fun He se => ⟨_, rfl, iteN (by decide) ?_⟩⟩
        have hte := se _ _ hd
        refine ⟨tyv_list (seq_of hte), t, rfl, _, hte, sz100l (by rw [List.length_map]; omega), Upd.intro fun Hf of hf => ?_⟩
        have ntq : dq ≠ t := fun e => by
          subst e
          rw [sc _ _ hq] at nd
          cases nd
        have ntg : g ≠ t := fun e => by
          subst e
          rw [hc] at nd
          cases nd
        have ntp : p6 ≠ t := fun e => by
          subst e
          rw [sc _ _ hp6] at nd
          cases nd
        have hgf := of _ _ ntg (se _ _ (sd _ _ hc))
        have Tf : Tups K Hf ps es := Tups.off ((Tc.same sd).same se) of hte
        refine ⟨g, ps, es, 1 + w, rfl, seq_of hgf, Tf, o6, by omega, by omega, by omega, fun t2 Hg ng sg hg => ?_⟩
        have hqg := sg _ _ (of _ _ ntq (se _ _ hqd))
        have P6g := sg _ _ (of _ _ ntp (se _ _ P6d))
        refine ⟨t2, dq, _, _, rfl, seq_of hg, seq_of hqg, by omega, rfl, fun Hh sh => ⟨_, rfl, iteN (by decide) ?_⟩⟩
        have dpd : ∀ d ∈ es, d.all isPd = true := fun d hd => by
          obtain ⟨c, s, b, rfl, _⟩ := o6 d hd
          rfl
        have hgh := sh _ _ (sg _ _ hgf)
        refine ne_tupsL (seq_of hgh) (seq_of (sh _ _ P6g)) ((Tf.same sg).same sh) ((Tf.same sg).same sh) dpd ⟨_, rfl, iteN (by decide) ⟨by decide, New.intro fun e0 Hi ni si hi => ?_⟩⟩
        refine ⟨e0, [], [], 1 + w, rfl, seq_of hi, .nil, fun d hd => (nomatch hd), by omega, by omega, by decide, fun t3 Hj nj sj hj => ⟨by decide, New.intro fun e1 Hk nk sk hk => ?_⟩⟩
        refine ⟨t3, e1, [], [], rfl, seq_of (sk _ _ hj), seq_of hk, by decide, rfl, fun Hl sl => ⟨_, rfl, iteP rfl ?_⟩⟩
        have Sgl : Same Hh Hl := si.trans (sj.trans (sk.trans sl))
        exact ⟨g, ps, es, 65 - (1 + w), rfl, seq_of (Sgl _ _ hgh), ((Tf.same sg).same sh).same Sgl, o6, by omega, by omega, by omega, fun t4 Hm nm sm hm => q Hm⟩
end
theorem all_mk {l : PySem.W.OpenLaw} {w : World} {K : PySem.W.Frag} {h : Heap} {mg : Str → Option Value} {fa f_law_drawn f_is_whole f_is_within f_is_place f_last_cell f_need_place f_cells_in f_lines_of f_law_place f_law_due f_law_same f_law : Addr} (X : K.In h) (G : h.Ns mainGlobals mg) (hfa : mg "law" = some (.ref fa))
    {od_law_drawn an_law_drawn : Option Addr} {sl_law_drawn : Array (Option Value)} {oc_law_drawn kV_law_drawn dc_law_drawn pm_law_drawn cd_law_drawn ct_law_drawn : Value}
    (a_law_drawn : PySem.W.nsIn K mainGlobals "_law_drawn" = some (some (.ref f_law_drawn))) (l_law_drawn : K.lookup f_law_drawn = some ⟨oc_law_drawn, od_law_drawn, .func (PySem.W.fnOf "_law_drawn" "_law_drawn" (defArgs s_law_drawn) (defBody s_law_drawn) (defScope s_law_drawn) .none kV_law_drawn dc_law_drawn pm_law_drawn an_law_drawn cd_law_drawn ct_law_drawn), sl_law_drawn⟩) (c_law_drawn : PySem.W.codeIn K cd_law_drawn "_law_drawn" = true) (k_law_drawn : PySem.W.keepIn K (.ref f_law_drawn) = true)
    {od_is_whole an_is_whole : Option Addr} {sl_is_whole : Array (Option Value)} {oc_is_whole kV_is_whole dc_is_whole pm_is_whole cd_is_whole ct_is_whole : Value}
    (a_is_whole : PySem.W.nsIn K mainGlobals "is_whole" = some (some (.ref f_is_whole))) (l_is_whole : K.lookup f_is_whole = some ⟨oc_is_whole, od_is_whole, .func (PySem.W.fnOf "is_whole" "is_whole" (defArgs s_is_whole) (defBody s_is_whole) (defScope s_is_whole) .none kV_is_whole dc_is_whole pm_is_whole an_is_whole cd_is_whole ct_is_whole), sl_is_whole⟩) (c_is_whole : PySem.W.codeIn K cd_is_whole "is_whole" = true) (k_is_whole : PySem.W.keepIn K (.ref f_is_whole) = true)
    {od_is_within an_is_within : Option Addr} {sl_is_within : Array (Option Value)} {oc_is_within kV_is_within dc_is_within pm_is_within cd_is_within ct_is_within : Value}
    (a_is_within : PySem.W.nsIn K mainGlobals "is_within" = some (some (.ref f_is_within))) (l_is_within : K.lookup f_is_within = some ⟨oc_is_within, od_is_within, .func (PySem.W.fnOf "is_within" "is_within" (defArgs s_is_within) (defBody s_is_within) (defScope s_is_within) .none kV_is_within dc_is_within pm_is_within an_is_within cd_is_within ct_is_within), sl_is_within⟩) (c_is_within : PySem.W.codeIn K cd_is_within "is_within" = true) (k_is_within : PySem.W.keepIn K (.ref f_is_within) = true)
    {od_is_place an_is_place : Option Addr} {sl_is_place : Array (Option Value)} {oc_is_place kV_is_place dc_is_place pm_is_place cd_is_place ct_is_place : Value}
    (a_is_place : PySem.W.nsIn K mainGlobals "is_place" = some (some (.ref f_is_place))) (l_is_place : K.lookup f_is_place = some ⟨oc_is_place, od_is_place, .func (PySem.W.fnOf "is_place" "is_place" (defArgs s_is_place) (defBody s_is_place) (defScope s_is_place) .none kV_is_place dc_is_place pm_is_place an_is_place cd_is_place ct_is_place), sl_is_place⟩) (c_is_place : PySem.W.codeIn K cd_is_place "is_place" = true) (k_is_place : PySem.W.keepIn K (.ref f_is_place) = true)
    {od_last_cell an_last_cell : Option Addr} {sl_last_cell : Array (Option Value)} {oc_last_cell kV_last_cell dc_last_cell pm_last_cell cd_last_cell ct_last_cell : Value}
    (a_last_cell : PySem.W.nsIn K mainGlobals "last_cell" = some (some (.ref f_last_cell))) (l_last_cell : K.lookup f_last_cell = some ⟨oc_last_cell, od_last_cell, .func (PySem.W.fnOf "last_cell" "last_cell" (defArgs s_last_cell) (defBody s_last_cell) (defScope s_last_cell) .none kV_last_cell dc_last_cell pm_last_cell an_last_cell cd_last_cell ct_last_cell), sl_last_cell⟩) (c_last_cell : PySem.W.codeIn K cd_last_cell "last_cell" = true) (k_last_cell : PySem.W.keepIn K (.ref f_last_cell) = true)
    {od_need_place an_need_place : Option Addr} {sl_need_place : Array (Option Value)} {oc_need_place kV_need_place dc_need_place pm_need_place cd_need_place ct_need_place : Value}
    (a_need_place : PySem.W.nsIn K mainGlobals "need_place" = some (some (.ref f_need_place))) (l_need_place : K.lookup f_need_place = some ⟨oc_need_place, od_need_place, .func (PySem.W.fnOf "need_place" "need_place" (defArgs s_need_place) (defBody s_need_place) (defScope s_need_place) .none kV_need_place dc_need_place pm_need_place an_need_place cd_need_place ct_need_place), sl_need_place⟩) (c_need_place : PySem.W.codeIn K cd_need_place "need_place" = true) (k_need_place : PySem.W.keepIn K (.ref f_need_place) = true)
    {od_cells_in an_cells_in : Option Addr} {sl_cells_in : Array (Option Value)} {oc_cells_in kV_cells_in dc_cells_in pm_cells_in cd_cells_in ct_cells_in : Value}
    (a_cells_in : PySem.W.nsIn K mainGlobals "cells_in" = some (some (.ref f_cells_in))) (l_cells_in : K.lookup f_cells_in = some ⟨oc_cells_in, od_cells_in, .func (PySem.W.fnOf "cells_in" "cells_in" (defArgs s_cells_in) (defBody s_cells_in) (defScope s_cells_in) .none kV_cells_in dc_cells_in pm_cells_in an_cells_in cd_cells_in ct_cells_in), sl_cells_in⟩) (c_cells_in : PySem.W.codeIn K cd_cells_in "cells_in" = true) (k_cells_in : PySem.W.keepIn K (.ref f_cells_in) = true)
    {od_lines_of an_lines_of : Option Addr} {sl_lines_of : Array (Option Value)} {oc_lines_of kV_lines_of dc_lines_of pm_lines_of cd_lines_of ct_lines_of : Value}
    (a_lines_of : PySem.W.nsIn K mainGlobals "lines_of" = some (some (.ref f_lines_of))) (l_lines_of : K.lookup f_lines_of = some ⟨oc_lines_of, od_lines_of, .func (PySem.W.fnOf "lines_of" "lines_of" (defArgs s_lines_of) (defBody s_lines_of) (defScope s_lines_of) .none kV_lines_of dc_lines_of pm_lines_of an_lines_of cd_lines_of ct_lines_of), sl_lines_of⟩) (c_lines_of : PySem.W.codeIn K cd_lines_of "lines_of" = true) (k_lines_of : PySem.W.keepIn K (.ref f_lines_of) = true)
    {od_law_place an_law_place : Option Addr} {sl_law_place : Array (Option Value)} {oc_law_place kV_law_place dc_law_place pm_law_place cd_law_place ct_law_place : Value}
    (a_law_place : PySem.W.nsIn K mainGlobals "_law_place" = some (some (.ref f_law_place))) (l_law_place : K.lookup f_law_place = some ⟨oc_law_place, od_law_place, .func (PySem.W.fnOf "_law_place" "_law_place" (defArgs s_law_place) (defBody s_law_place) (defScope s_law_place) .none kV_law_place dc_law_place pm_law_place an_law_place cd_law_place ct_law_place), sl_law_place⟩) (c_law_place : PySem.W.codeIn K cd_law_place "_law_place" = true) (k_law_place : PySem.W.keepIn K (.ref f_law_place) = true)
    {od_law_due an_law_due : Option Addr} {sl_law_due : Array (Option Value)} {oc_law_due kV_law_due dc_law_due pm_law_due cd_law_due ct_law_due : Value}
    (a_law_due : PySem.W.nsIn K mainGlobals "_law_due" = some (some (.ref f_law_due))) (l_law_due : K.lookup f_law_due = some ⟨oc_law_due, od_law_due, .func (PySem.W.fnOf "_law_due" "_law_due" (defArgs s_law_due) (defBody s_law_due) (defScope s_law_due) .none kV_law_due dc_law_due pm_law_due an_law_due cd_law_due ct_law_due), sl_law_due⟩) (c_law_due : PySem.W.codeIn K cd_law_due "_law_due" = true) (k_law_due : PySem.W.keepIn K (.ref f_law_due) = true)
    {od_law_same an_law_same : Option Addr} {sl_law_same : Array (Option Value)} {oc_law_same kV_law_same dc_law_same pm_law_same cd_law_same ct_law_same : Value}
    (a_law_same : PySem.W.nsIn K mainGlobals "_law_same" = some (some (.ref f_law_same))) (l_law_same : K.lookup f_law_same = some ⟨oc_law_same, od_law_same, .func (PySem.W.fnOf "_law_same" "_law_same" (defArgs s_law_same) (defBody s_law_same) (defScope s_law_same) .none kV_law_same dc_law_same pm_law_same an_law_same cd_law_same ct_law_same), sl_law_same⟩) (c_law_same : PySem.W.codeIn K cd_law_same "_law_same" = true) (k_law_same : PySem.W.keepIn K (.ref f_law_same) = true)
    {od_law an_law : Option Addr} {sl_law : Array (Option Value)} {oc_law kV_law dc_law pm_law cd_law ct_law : Value}
    (a_law : PySem.W.nsIn K mainGlobals "law" = some (some (.ref f_law))) (l_law : K.lookup f_law = some ⟨oc_law, od_law, .func (PySem.W.fnOf "law" "law" (defArgs s_law) (defBody s_law) (defScope s_law) .none kV_law dc_law pm_law an_law cd_law ct_law), sl_law⟩) (c_law : PySem.W.codeIn K cd_law "law" = true) (k_law : PySem.W.keepIn K (.ref f_law) = true)
    (n_bool : PySem.W.nsIn K mainGlobals "bool" = some none)
    (n_int : PySem.W.nsIn K mainGlobals "int" = some none)
    (n_isinstance : PySem.W.nsIn K mainGlobals "isinstance" = some none)
    (n_len : PySem.W.nsIn K mainGlobals "len" = some none)
    (n_list : PySem.W.nsIn K mainGlobals "list" = some none)
    (n_range : PySem.W.nsIn K mainGlobals "range" = some none)
    (n_tuple : PySem.W.nsIn K mainGlobals "tuple" = some none)
    {t_CELL_BITS : Tok} (q_CELL_BITS : PySem.W.nsIn K mainGlobals "CELL_BITS" = some (some (.int 8 t_CELL_BITS)))
    {t_MOST_BITS : Tok} (q_MOST_BITS : PySem.W.nsIn K mainGlobals "MOST_BITS" = some (some (.int 512 t_MOST_BITS)))
    {t_TAG_BITS : Tok} (q_TAG_BITS : PySem.W.nsIn K mainGlobals "TAG_BITS" = some (some (.int 2 t_TAG_BITS)))
    {t_WIDEST_LINE : Tok} (q_WIDEST_LINE : PySem.W.nsIn K mainGlobals "WIDEST_LINE" = some (some (.int 64 t_WIDEST_LINE)))
    : ∃ fd : FuncData, (∀ (s : Shared) (v : Value), BindsTo s fd ⟨[v], []⟩ [("_law_script", v)]) ∧ ∀ base : Heap, K.In base → base.Ns mainGlobals mg → FnOk l.prog w K mg base CX0 6 fa fd ["_law_script"] (spLaw K) := by
  have e := hfa.symm.trans (PySem.W.mg_of X G a_law)
  cases e
  have F_law_drawn := fun_mk (st := s_law_drawn) l_law_drawn c_law_drawn k_law_drawn
  have F_is_whole := fun_mk (st := s_is_whole) l_is_whole c_is_whole k_is_whole
  have F_is_within := fun_mk (st := s_is_within) l_is_within c_is_within k_is_within
  have F_is_place := fun_mk (st := s_is_place) l_is_place c_is_place k_is_place
  have F_last_cell := fun_mk (st := s_last_cell) l_last_cell c_last_cell k_last_cell
  have F_need_place := fun_mk (st := s_need_place) l_need_place c_need_place k_need_place
  have F_cells_in := fun_mk (st := s_cells_in) l_cells_in c_cells_in k_cells_in
  have F_lines_of := fun_mk (st := s_lines_of) l_lines_of c_lines_of k_lines_of
  have F_law_place := fun_mk (st := s_law_place) l_law_place c_law_place k_law_place
  have F_law_due := fun_mk (st := s_law_due) l_law_due c_law_due k_law_due
  have F_law_same := fun_mk (st := s_law_same) l_law_same c_law_same k_law_same
  have F_law := fun_mk (st := s_law) l_law c_law k_law
  have c_CELL_BITS : ∃ t, mg "CELL_BITS" = some (.int 8 t) := ⟨_, PySem.W.mg_of X G q_CELL_BITS⟩
  have c_MOST_BITS : ∃ t, mg "MOST_BITS" = some (.int 512 t) := ⟨_, PySem.W.mg_of X G q_MOST_BITS⟩
  have c_TAG_BITS : ∃ t, mg "TAG_BITS" = some (.int 2 t) := ⟨_, PySem.W.mg_of X G q_TAG_BITS⟩
  have c_WIDEST_LINE : ∃ t, mg "WIDEST_LINE" = some (.int 64 t) := ⟨_, PySem.W.mg_of X G q_WIDEST_LINE⟩
  have z_bool : mg "bool" = none := PySem.W.mg_none_of X G n_bool
  have z_int : mg "int" = none := PySem.W.mg_none_of X G n_int
  have z_isinstance : mg "isinstance" = none := PySem.W.mg_none_of X G n_isinstance
  have z_len : mg "len" = none := PySem.W.mg_none_of X G n_len
  have z_list : mg "list" = none := PySem.W.mg_none_of X G n_list
  have z_range : mg "range" = none := PySem.W.mg_none_of X G n_range
  have z_tuple : mg "tuple" = none := PySem.W.mg_none_of X G n_tuple
  refine ⟨PySem.W.fnOf "law" "law" (defArgs s_law) (defBody s_law) (defScope s_law) .none kV_law dc_law pm_law an_law cd_law ct_law, fun s v => .of_eq rfl, fun base _ _ => ?_⟩
  have D_law_drawn : Dn l.prog w K mg base CX0 1 "_law_drawn" ["_law_cell", "_law_sizes"] (spDrawn K) := ⟨⟨_, _, ok_drawn F_law_drawn, PySem.W.mg_of X G a_law_drawn, k_law_drawn, F_law_drawn.binds (ps := ["_law_cell", "_law_sizes"]) fun _ _ _ _ _ _ us hl => match us, hl with | [_, _], _ => rfl⟩⟩
  have D_is_whole : Dn l.prog w K mg base CX0 1 "is_whole" ["thing"] (spIsWhole K) := ⟨⟨_, _, ok_isWhole F_is_whole z_isinstance z_int z_bool, PySem.W.mg_of X G a_is_whole, k_is_whole, F_is_whole.binds (ps := ["thing"]) fun _ _ _ _ _ _ us hl => match us, hl with | [_], _ => rfl⟩⟩
  have D_is_within : Dn l.prog w K mg base CX0 2 "is_within" ["thing", "low", "high"] (spIsWithin K) := ⟨⟨_, _, ok_isWithin F_is_within D_is_whole, PySem.W.mg_of X G a_is_within, k_is_within, F_is_within.binds (ps := ["thing", "low", "high"]) fun _ _ _ _ _ _ us hl => match us, hl with | [_, _, _], _ => rfl⟩⟩
  have D_is_place : Dn l.prog w K mg base CX0 2 "is_place" ["thing"] (spIsPlace K) := ⟨⟨_, _, ok_isPlace F_is_place z_isinstance z_tuple z_len c_TAG_BITS c_CELL_BITS c_MOST_BITS D_is_whole, PySem.W.mg_of X G a_is_place, k_is_place, F_is_place.binds (ps := ["thing"]) fun _ _ _ _ _ _ us hl => match us, hl with | [_], _ => rfl⟩⟩
  have D_last_cell : Dn l.prog w K mg base CX0 1 "last_cell" ["place"] (spLastCell K) := ⟨⟨_, _, ok_lastCell F_last_cell c_CELL_BITS, PySem.W.mg_of X G a_last_cell, k_last_cell, F_last_cell.binds (ps := ["place"]) fun _ _ _ _ _ _ us hl => match us, hl with | [_], _ => rfl⟩⟩
  have D_need_place : Dn l.prog w K mg base CX0 3 "need_place" ["thing"] (spNeedOk K) := ⟨⟨_, _, ok_needOk F_need_place D_is_place, PySem.W.mg_of X G a_need_place, k_need_place, F_need_place.binds (ps := ["thing"]) fun _ _ _ _ _ _ us hl => match us, hl with | [_], _ => rfl⟩⟩
  have D_cells_in : Dn l.prog w K mg base CX0 4 "cells_in" ["place"] (spCellsIn K) := ⟨⟨_, _, ok_cellsIn F_cells_in z_range D_need_place D_last_cell, PySem.W.mg_of X G a_cells_in, k_cells_in, F_cells_in.binds (ps := ["place"]) fun _ _ _ _ _ _ us hl => match us, hl with | [_], _ => rfl⟩⟩
  have D_lines_of : Dn l.prog w K mg base CX0 5 "lines_of" ["places", "wide"] (spLinesOk K) := ⟨⟨_, _, ok_linesOk F_lines_of z_range c_WIDEST_LINE D_is_within D_cells_in, PySem.W.mg_of X G a_lines_of, k_lines_of, F_lines_of.binds (ps := ["places", "wide"]) fun _ _ _ _ _ _ us hl => match us, hl with | [_, _], _ => rfl⟩⟩
  have D_law_place : Dn l.prog w K mg base CX0 2 "_law_place" ["_law_cell"] spPlace := ⟨⟨_, _, ok_place F_law_place D_law_drawn, PySem.W.mg_of X G a_law_place, k_law_place, F_law_place.binds (ps := ["_law_cell"]) fun _ _ _ _ _ _ us hl => match us, hl with | [_], _ => rfl⟩⟩
  have D_law_due : Dn l.prog w K mg base CX0 1 "_law_due" ["_law_place_here", "_law_wide"] (spDue K) := ⟨⟨_, _, ok_due F_law_due z_range, PySem.W.mg_of X G a_law_due, k_law_due, F_law_due.binds (ps := ["_law_place_here", "_law_wide"]) fun _ _ _ _ _ _ us hl => match us, hl with | [_, _], _ => rfl⟩⟩
  have D_law_same : Dn l.prog w K mg base CX0 1 "_law_same" ["_law_found", "_law_due_here"] (spSame K) := ⟨⟨_, _, ok_same F_law_same z_isinstance z_list z_int z_bool, PySem.W.mg_of X G a_law_same, k_law_same, F_law_same.binds (ps := ["_law_found", "_law_due_here"]) fun _ _ _ _ _ _ us hl => match us, hl with | [_, _], _ => rfl⟩⟩
  exact ok_law F_law z_len z_list D_law_drawn D_law_place D_law_due D_law_same D_lines_of
end K47
open PySem PySem.W PyProof.Rows
set_option maxHeartbeats 0 in
theorem PySem.Challenge.cw_roomslaid_k47_lines_touched_holds : PySem.Challenge.rw_roomslaid_k47_lines_touched.Holds := by
  w_on; o_law; k_head; (case hw => w_witness2)
  k_fill
  refine L2.walk_of (l := PySem.Challenge.rw_roomslaid_k47_lines_touched) (n := 63) (k := 6) (x := "_law_script") (CX := fun _ => L2.CX0) (sp := fun w => K47.spLaw _) rfl (by decide) rfl ⟨rfl, by decide, by decide⟩ (fun w h Y => PySem.W.kIn_of Y) ?F (fun _ _ a ns hl _ hS => ⟨a, ns, rfl, hS, hl, fun _ => rfl⟩) (fun _ _ _ _ _ h => h)
  case F =>
    intro w mg fa h KX G hmg
    refine' K47.all_mk KX G hmg ?a_law_drawn ?l_law_drawn ?c_law_drawn ?k_law_drawn ?a_is_whole ?l_is_whole ?c_is_whole ?k_is_whole ?a_is_within ?l_is_within ?c_is_within ?k_is_within ?a_is_place ?l_is_place ?c_is_place ?k_is_place ?a_last_cell ?l_last_cell ?c_last_cell ?k_last_cell ?a_need_place ?l_need_place ?c_need_place ?k_need_place ?a_cells_in ?l_cells_in ?c_cells_in ?k_cells_in ?a_lines_of ?l_lines_of ?c_lines_of ?k_lines_of ?a_law_place ?l_law_place ?c_law_place ?k_law_place ?a_law_due ?l_law_due ?c_law_due ?k_law_due ?a_law_same ?l_law_same ?c_law_same ?k_law_same ?a_law ?l_law ?c_law ?k_law ?n_bool ?n_int ?n_isinstance ?n_len ?n_list ?n_range ?n_tuple ?q_CELL_BITS ?q_MOST_BITS ?q_TAG_BITS ?q_WIDEST_LINE
    (case a_law_drawn => k_is)
    (case l_law_drawn => k_is)
    (case c_law_drawn => k_is)
    (case k_law_drawn => k_is)
    (case a_is_whole => k_is)
    (case l_is_whole => k_is)
    (case c_is_whole => k_is)
    (case k_is_whole => k_is)
    (case a_is_within => k_is)
    (case l_is_within => k_is)
    (case c_is_within => k_is)
    (case k_is_within => k_is)
    (case a_is_place => k_is)
    (case l_is_place => k_is)
    (case c_is_place => k_is)
    (case k_is_place => k_is)
    (case a_last_cell => k_is)
    (case l_last_cell => k_is)
    (case c_last_cell => k_is)
    (case k_last_cell => k_is)
    (case a_need_place => k_is)
    (case l_need_place => k_is)
    (case c_need_place => k_is)
    (case k_need_place => k_is)
    (case a_cells_in => k_is)
    (case l_cells_in => k_is)
    (case c_cells_in => k_is)
    (case k_cells_in => k_is)
    (case a_lines_of => k_is)
    (case l_lines_of => k_is)
    (case c_lines_of => k_is)
    (case k_lines_of => k_is)
    (case a_law_place => k_is)
    (case l_law_place => k_is)
    (case c_law_place => k_is)
    (case k_law_place => k_is)
    (case a_law_due => k_is)
    (case l_law_due => k_is)
    (case c_law_due => k_is)
    (case k_law_due => k_is)
    (case a_law_same => k_is)
    (case l_law_same => k_is)
    (case c_law_same => k_is)
    (case k_law_same => k_is)
    (case a_law => k_is)
    (case l_law => k_is)
    (case c_law => k_is)
    (case k_law => k_is)
    (case n_bool => k_is)
    (case n_int => k_is)
    (case n_isinstance => k_is)
    (case n_len => k_is)
    (case n_list => k_is)
    (case n_range => k_is)
    (case n_tuple => k_is)
    (case q_CELL_BITS => k_is)
    (case q_MOST_BITS => k_is)
    (case q_TAG_BITS => k_is)
    (case q_WIDEST_LINE => k_is)
