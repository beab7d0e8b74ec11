import PyProof.Rows.All
import Wide.All
import OpenK.AllK
import Wide.FinOn
import HandS.ForMost
import HandS.ForExc
import HandS.RevRange
import HandS.Property
import HandS.More
import HandS.Conv
import HandS.Flow
import HandS.ExcInit
import HandS.ExcField
import HandS.ExcIs
import HandS.IsInst
import HandS.Walk
import HandS.SortInts
import HandS.TupAny
import KE.KExcIs
import KE.KIsAll
import PyProof.ReprBulk
import HandS.Finally
import HandS.RaiseMore
import PySem.Challenge.RW_packedtrees_k88_whole_kinds_on_webs
set_option Elab.async false
set_option maxRecDepth 100000
set_option linter.all false
set_option maxHeartbeats 4000000
namespace PT
open PySem L2
/-! ### heaps -/
theorem sm_up {H : Hp} {p : Addr} {o : HO} (h : H p = none) : Same H (upd H p o) := fun b u e => by
  rw [upd_ne (ne_of_none e h)]
  exact e
theorem sm_up2 {G H : Hp} {p : Addr} {o : HO} (s : Same G H) (h : H p = none) : Same G (upd H p o) := s.trans (sm_up h)
/-- an object that G does not know may change -/
theorem sm_mut {G H : Hp} {p : Addr} {o : HO} (s : Same G H) (h : G p = none) : Same G (upd H p o) := fun b u e => by
  rw [upd_ne (ne_of_none e h)]
  exact s b u e
theorem hget {G H : Hp} {a : Addr} {o : HO} (s : Same G H) (h : G a = some o) : H a = some o := s a o h
theorem sm_tp {K : PySem.W.Frag} {H H' : Hp} {a : Addr} {xs : List V} (e : Same H H') (h : SqT K H a xs) : SqT K H' a xs := by
  rcases h with (h | ⟨o, h⟩) | h
  · exact .inl (.inl (e _ _ h))
  · exact .inl (.inr ⟨o, e _ _ h⟩)
  · exact .inr h
mutual
theorem dp_up {K : PySem.W.Frag} {H H' : Hp} (e : Same H H') : ∀ {v : V} {d : PyData}, Dp K H v d → Dp K H' v d
  | _, _, .non => .non
  | _, _, .bl b => .bl b
  | _, _, .int i => .int i
  | _, _, .str x => .str x
  | _, _, .lst h a => .lst (e.seq h) (dps_up e a)
  | _, _, .tup h a => .tup (sm_tp e h) (dps_up e a)
theorem dps_up {K : PySem.W.Frag} {H H' : Hp} (e : Same H H') : ∀ {vs : List V} {ds : List PyData}, DpAll K H vs ds → DpAll K H' vs ds
  | _, _, .nil => .nil
  | _, _, .cons h t => .cons (dp_up e h) (dps_up e t)
end
theorem dps_len {K : PySem.W.Frag} {H : Hp} : ∀ {vs : List V} {ds : List PyData}, DpAll K H vs ds → vs.length = ds.length
  | _, _, .nil => rfl
  | _, _, .cons _ t => by rw [List.length_cons, List.length_cons, dps_len t]
theorem dps_get {K : PySem.W.Frag} {H : Hp} : ∀ {vs : List V} {ds : List PyData} {i : Nat} {d : PyData}, DpAll K H vs ds → ds[i]? = some d → ∃ v, vs[i]? = some v ∧ Dp K H v d
  | _, _, _, _, .nil, e => by simp at e
  | _, _, 0, _, .cons h _, e => by
    simp at e
    subst e
    exact ⟨_, rfl, h⟩
  | _, _, i + 1, _, .cons _ t, e => by
    obtain ⟨v, h1, h2⟩ := dps_get (i := i) t (by simpa using e)
    exact ⟨v, by simpa using h1, h2⟩
theorem dps_get' {K : PySem.W.Frag} {H : Hp} : ∀ {vs : List V} {ds : List PyData} {i : Nat} {v : V}, DpAll K H vs ds → vs[i]? = some v → ∃ d, ds[i]? = some d ∧ Dp K H v d
  | _, _, _, _, .nil, e => by simp at e
  | _, _, 0, _, .cons h _, e => by
    simp at e
    subst e
    exact ⟨_, rfl, h⟩
  | _, _, i + 1, _, .cons _ t, e => by
    obtain ⟨v, h1, h2⟩ := dps_get' (i := i) t (by simpa using e)
    exact ⟨v, by simpa using h1, h2⟩
theorem dps_app {K : PySem.W.Frag} {H : Hp} : ∀ {vs ws : List V} {ds es : List PyData}, DpAll K H vs ds → DpAll K H ws es → DpAll K H (vs ++ ws) (ds ++ es)
  | _, _, _, _, .nil, h => h
  | _, _, _, _, .cons a t, h => .cons a (dps_app t h)
theorem dps_set {K : PySem.W.Frag} {H : Hp} {v : V} {d : PyData} (h : Dp K H v d) : ∀ {vs : List V} {ds : List PyData} (i : Nat), DpAll K H vs ds → DpAll K H (vs.set i v) (ds.set i d)
  | _, _, _, .nil => .nil
  | _, _, 0, .cons _ t => .cons h t
  | _, _, i + 1, .cons a t => .cons a (dps_set h i t)
theorem dps_drop {K : PySem.W.Frag} {H : Hp} : ∀ {vs : List V} {ds : List PyData}, DpAll K H vs ds → DpAll K H vs.dropLast ds.dropLast
  | _, _, .nil => .nil
  | _, _, .cons _ .nil => .nil
  | _, _, .cons a (.cons b t) => .cons a (dps_drop (.cons b t))
theorem dps_rep {K : PySem.W.Frag} {H : Hp} {v : V} {d : PyData} (h : Dp K H v d) : ∀ n : Nat, DpAll K H (List.replicate n v) (List.replicate n d)
  | 0 => .nil
  | n + 1 => .cons h (dps_rep h n)
theorem dps_int {K : PySem.W.Frag} {H : Hp} : ∀ ns : List Int, DpAll K H (ns.map V.int) (ns.map PyData.int)
  | [] => .nil
  | n :: r => .cons (.int n) (dps_int r)
theorem dps_int' {K : PySem.W.Frag} {H : Hp} : ∀ {ns : List Int} {vs : List V}, DpAll K H vs (ns.map PyData.int) → vs = ns.map V.int
  | [], _, h => by cases h; rfl
  | n :: r, _, h => by
    cases h with
    | cons a t =>
      cases a
      rw [dps_int' t]
      rfl
/-- a list of ints, of texts .. as data -/
abbrev dI (ns : List Int) : PyData := .list (ns.map PyData.int)
abbrev dTI (ns : List Int) : PyData := .tuple (ns.map PyData.int)
theorem dp_ints {K : PySem.W.Frag} {H : Hp} {a : Addr} {ns : List Int} (h : SqL K H a (ns.map V.int)) : Dp K H (.ref a) (dI ns) := .lst h (dps_int ns)
theorem dp_tints {K : PySem.W.Frag} {H : Hp} {a : Addr} {ns : List Int} (h : SqT K H a (ns.map V.int)) : Dp K H (.ref a) (dTI ns) := .tup h (dps_int ns)
theorem dp_ints' {K : PySem.W.Frag} {H : Hp} {v : V} {ns : List Int} (h : Dp K H v (dI ns)) : ∃ a, v = .ref a ∧ SqL K H a (ns.map V.int) := by
  cases h with
  | lst s t => exact ⟨_, rfl, by rw [← dps_int' t]; exact s⟩
theorem dp_tints' {K : PySem.W.Frag} {H : Hp} {v : V} {ns : List Int} (h : Dp K H v (dTI ns)) : ∃ a, v = .ref a ∧ SqT K H a (ns.map V.int) := by
  cases h with
  | tup s t => exact ⟨_, rfl, by rw [← dps_int' t]; exact s⟩
theorem dp_list' {K : PySem.W.Frag} {H : Hp} {v : V} {ds : List PyData} (h : Dp K H v (.list ds)) : ∃ a vs, v = .ref a ∧ SqL K H a vs ∧ DpAll K H vs ds := by
  cases h with
  | lst s t => exact ⟨_, _, rfl, s, t⟩
theorem dp_tup' {K : PySem.W.Frag} {H : Hp} {v : V} {ds : List PyData} (h : Dp K H v (.tuple ds)) : ∃ a vs, v = .ref a ∧ SqT K H a vs ∧ DpAll K H vs ds := by
  cases h with
  | tup s t => exact ⟨_, _, rfl, s, t⟩
theorem dp_int' {K : PySem.W.Frag} {H : Hp} {v : V} {i : Int} (h : Dp K H v (.int i)) : v = .int i := by
  cases h
  rfl
/-- H without the object at p -/
def wo (H : Hp) (p : Addr) : Hp := fun b => if b = p then none else H b
theorem wo_at {H : Hp} {p : Addr} : wo H p p = none := if_pos rfl
theorem wo_ne {H : Hp} {p b : Addr} (h : b ≠ p) : wo H p b = H b := if_neg h
theorem sm_wo {H : Hp} {p : Addr} : Same (wo H p) H := fun b u e => by
  by_cases h : b = p
  · rw [h, wo_at] at e
    cases e
  · rwa [wo_ne h] at e
theorem wo_upd {H : Hp} {p : Addr} {o : HO} : wo (upd H p o) p = wo H p := by
  funext b
  unfold wo
  by_cases h : b = p
  · rw [if_pos h, if_pos h]
  · rw [if_neg h, if_neg h, upd_ne h]
theorem wo_mono {H H' : Hp} {p : Addr} (s : Same H H') : Same (wo H p) (wo H' p) := fun b u e => by
  by_cases h : b = p
  · rw [h, wo_at] at e
    cases e
  · rw [wo_ne h] at e ⊢
    exact s b u e
/-- all but the object at p is as it was -/
def But (p : Addr) (H H' : Hp) : Prop := ∀ b o, b ≠ p → H b = some o → H' b = some o
theorem But.wo {p : Addr} {H H' : Hp} (h : But p H H') : Same (PT.wo H p) (PT.wo H' p) := fun b u e => by
  by_cases hb : b = p
  · rw [hb, wo_at] at e
    cases e
  · rw [wo_ne hb] at e ⊢
    exact h b u hb e
theorem But.of {p : Addr} {H H' : Hp} (h : Same (PT.wo H p) (PT.wo H' p)) : But p H H' := fun b u hb e => by
  have q := h b u (by rw [wo_ne hb]; exact e)
  rwa [wo_ne hb] at q
theorem But.refl {p : Addr} (H : Hp) : But p H H := fun _ _ _ e => e
theorem But.trans {p : Addr} {H H1 H2 : Hp} (a : But p H H1) (b : But p H1 H2) : But p H H2 := fun c o h e => b c o h (a c o h e)
theorem But.upd {p : Addr} {H : Hp} {o : HO} : But p H (L2.upd H p o) := fun b u h e => by
  rw [upd_ne h]
  exact e
theorem But.same {p : Addr} {H H' : Hp} (s : Same H H') : But p H H' := fun b u _ e => s b u e
theorem hbut {p a : Addr} {H H' : Hp} {o : HO} (b : But p H H') (ne : a ≠ p) (h : H a = some o) : H' a = some o := b a o ne h
theorem sqbut {K : PySem.W.Frag} {p a : Addr} {H H' : Hp} {xs : List V} (b : But p H H') (ne : a ≠ p) (h : SqL K H a xs) : SqL K H' a xs := by
  rcases h with (h | ⟨o, h⟩) | h
  · exact .inl (.inl (b a _ ne h))
  · exact .inl (.inr ⟨o, b a _ ne h⟩)
  · exact .inr h
theorem But.free {p q : Addr} {H H' : Hp} (b : But p H H') (ne : q ≠ p) (h : H' q = none) : H q = none := by
  cases e : H q with
  | none => rfl
  | some o =>
    rw [b q o ne e] at h
    cases h
theorem But.up {p q : Addr} {G H : Hp} {o : HO} (b : But p G H) (h : H q = none) : But p G (L2.upd H q o) := b.trans (But.same (sm_up h))
theorem But.set {p : Addr} {G H : Hp} {o : HO} (b : But p G H) : But p G (L2.upd H p o) := b.trans But.upd
/-! ### built-in calls by name -/
def cLen (K : PySem.W.Frag) : List V → Hp → VK → Prop := fun xs H Q => ∃ p ys, xs = [.ref p] ∧ (SqL K H p ys ∨ SqT K H p ys) ∧ Q (.int ys.length) H
theorem k_len {X : Cx} : CallR X (.builtin "len") (cLen X.K) := call_len_seq
def cInt : List V → Hp → VK → Prop := fun xs H Q => (∃ i, xs = [.int i] ∧ Q (.int i) H) ∨ ∃ k, xs = [.bl k] ∧ Q (.int (if k then 1 else 0)) H
theorem k_int {X : Cx} : CallR X (.type "int") cInt := call_int1
def cMax : List V → Hp → VK → Prop := fun xs H Q => ∃ i j, xs = [.int i, .int j] ∧ Q (.int (if j > i then j else i)) H
theorem k_max {X : Cx} (hc : X.calm = true) : CallR X (.builtin "max") cMax := call_max2 hc
def cMin : List V → Hp → VK → Prop := fun xs H Q => ∃ i j, xs = [.int i, .int j] ∧ Q (.int (if j < i then j else i)) H
theorem k_min {X : Cx} (hc : X.calm = true) : CallR X (.builtin "min") cMin := call_min2 hc
def cLst (K : PySem.W.Frag) : List V → Hp → VK → Prop := fun xs H Q => ∃ p ys, xs = [.ref p] ∧ (SqL K H p ys ∨ SqT K H p ys) ∧ ∀ l, H l = none → Q (.ref l) (upd H l (.lst ys))
theorem k_lst {X : Cx} : CallR X (.type "list") (cLst X.K) := call_list_of
def cTup (K : PySem.W.Frag) : List V → Hp → VK → Prop := fun xs H Q => ∃ p ys, xs = [.ref p] ∧ ((SqL K H p ys ∧ ∀ l, H l = none → Q (.ref l) (upd H l (.tup ys))) ∨ (SqT K H p ys ∧ Q (.ref p) H))
theorem k_tup {X : Cx} : CallR X (.type "tuple") (cTup X.K) := call_tuple_of
def oIsN : R2 := fun x y H Q => y = .non ∧ Q (.bl (decide (x = .non))) H
theorem k_isN {X : Cx} : OpR X (compareOp .Is) oIsN := op_isN
def oNotN : R2 := fun x y H Q => y = .non ∧ Q (.bl (!decide (x = .non))) H
theorem k_notN {X : Cx} : OpR X (compareOp .IsNot) oNotN := op_notN
/-! ### readings, one construct a lemma -/
section
variable {K : PySem.W.Frag} {D : Ends} {σ : L2.St} {H : Hp} {Q : VK} {ta tb te tc : TE} {t u : TS} {c c2 : TT} {g : TG} {r r2 : R2} {x y v : V} {R : Bool → Hp → Prop} {S : L2.St → Hp → Prop}
theorem r_seq (h : t { D with nx := u D } σ H) : tSeq t u D σ H := h
theorem r_asg (h : te σ H fun x H1 => g x σ H1 D.nx) : tAsg te g D σ H := h
theorem r_ret (h : te σ H D.rt) : tRet te D σ H := h
theorem r_retN (h : D.rt .non H) : tRetN D σ H := h
theorem r_if (h : c σ H fun b H1 => if b = true then t D σ H1 else u D σ H1) : tIfS c t u D σ H := h
theorem r_next (h : D.nx σ H) : tNext D σ H := h
theorem r_brk (h : D.bk σ H) : tBreak D σ H := h
theorem r_ct (h : D.ct σ H) : tCont D σ H := h
theorem r_drop (h : te σ H fun _ H1 => D.nx σ H1) : tDrop te D σ H := h
theorem r_aug {i : Nat} {ti : TIp} (e : σ[i]? = some (some x)) (h : te σ H fun y H1 => ti x y H1 fun z H2 => D.nx (σ.set i (some z)) H2) : tAug i te ti D σ H := ⟨x, e, h⟩
theorem r_ipI {f : Int → Int → Int} {i j : Int} (h : Q (.int (f i j)) H) : ipI f (.int i) (.int j) H Q := ⟨i, j, rfl, rfl, h⟩
theorem r_name {i : Nat} (h : S (σ.set i (some v)) H) : gName i v σ H S := h
theorem r_gsub {to ti : TE} {s : TSet} (h : to σ H fun o H1 => ti σ H1 fun i H2 => s o i v H2 fun H3 => S σ H3) : gSub to ti s v σ H S := h
theorem r_var {i : Nat} (e : σ[i]? = some (some v)) (h : Q v H) : tVar i σ H Q := ⟨v, e, h⟩
theorem r_c (h : Q v H) : tC v σ H Q := h
theorem r_op (h : ta σ H fun x H1 => tb σ H1 fun y H2 => r x y H2 Q) : tOp r ta tb σ H Q := h
theorem r_un {f : V → Hp → VK → Prop} (h : ta σ H fun x H1 => f x H1 Q) : tUn f ta σ H Q := h
theorem r_test (h : te σ H fun x H' => ∃ k, x = .bl k ∧ R k H') : tTest te σ H R := h
theorem r_B (h : te σ H fun x H' => ∃ k, x = .bl k ∧ R k H') : tB te σ H R := h
theorem r_and (h : c σ H fun b H1 => if b = true then c2 σ H1 R else R false H1) : tAnd c c2 σ H R := h
theorem r_or (h : c σ H fun b H1 => if b = true then R true H1 else c2 σ H1 R) : tOr c c2 σ H R := h
theorem r_not (h : c σ H fun b H1 => R (!b) H1) : tNot c σ H R := h
theorem r_ifE (h : c σ H fun b H1 => if b = true then ta σ H1 Q else tb σ H1 Q) : tIf c ta tb σ H Q := h
theorem r_I0 {f : Int → Int → V} {i j : Int} (h : Q (f i j) H) : rI0 f (.int i) (.int j) H Q := ⟨i, j, rfl, rfl, h⟩
theorem r_I {C : Int → Int → Prop} {f : Int → Int → V} {i j : Int} (q : C i j) (h : Q (f i j) H) : rI C f (.int i) (.int j) H Q := ⟨i, j, rfl, rfl, q, h⟩
theorem r_U {f : Int → V} {i : Int} (h : Q (f i) H) : rU f (.int i) H Q := ⟨i, rfl, h⟩
theorem r_eq (s : scal x y = true) (h : Q (.bl (decide (x = y))) H) : rEq x y H Q := ⟨s, h⟩
theorem r_ne (s : scal x y = true) (h : Q (.bl (!decide (x = y))) H) : rNe x y H Q := ⟨s, h⟩
theorem r_eqI {i j : Int} (h : Q (.bl (decide (i = j))) H) : rEq (.int i) (.int j) H Q := ⟨rfl, by
  rw [show decide (V.int i = V.int j) = decide (i = j) from decide_eq_decide.mpr ⟨fun e => V.int.inj e, fun e => by rw [e]⟩]
  exact h⟩
theorem r_neI {i j : Int} (h : Q (.bl (!decide (i = j))) H) : rNe (.int i) (.int j) H Q := ⟨rfl, by
  rw [show decide (V.int i = V.int j) = decide (i = j) from decide_eq_decide.mpr ⟨fun e => V.int.inj e, fun e => by rw [e]⟩]
  exact h⟩
theorem r_chain {r r' : R2} (h : ta σ H fun x H1 => tb σ H1 fun y H2 => r x y H2 fun z H3 => ∃ k, z = .bl k ∧ (if k = true then tc σ H3 fun w' H4 => r' y w' H4 Q else Q (.bl false) H3)) : tChain r r' ta tb tc σ H Q := h
theorem r_exb {b : Bool} {F : Bool → Prop} (h : F b) : ∃ k, V.bl b = .bl k ∧ F k := ⟨b, rfl, h⟩
theorem r_nil {Q : List V → Hp → Prop} (h : Q [] H) : tNil σ H Q := h
theorem r_cons {tr : TA} {Q : List V → Hp → Prop} (h : ta σ H fun x H1 => tr σ H1 fun xs H2 => Q (x :: xs) H2) : tCons ta tr σ H Q := h
theorem r_CB {f : List V → Hp → VK → Prop} {t : TA} (h : t σ H fun vs H1 => f vs H1 Q) : tCB f t σ H Q := h
theorem r_call {sp : Sp} {dvs : List V} {E : XK} {t : TA} (h : t σ H fun vs H1 => sp (vs ++ dvs) H1 Q E) : tCall sp dvs E t σ H Q := h
theorem r_lst {t : TA} (h : t σ H fun xs H1 => xs.length ≤ sizeLine ∧ ∀ p, H1 p = none → Q (.ref p) (upd H1 p (.lst xs))) : tLst t σ H Q := h
theorem r_tup {t : TA} (h : t σ H fun xs H1 => xs.length ≤ sizeLine ∧ ∀ p, H1 p = none → Q (.ref p) (upd H1 p (.tup xs))) : tTup t σ H Q := h
theorem r_BM {T : String} {f : V → List V → Hp → VK → Prop} {to : TE} {t : TA} (h : to σ H fun x H1 => tyV K T x H1 ∧ t σ H1 fun xs H2 => f x xs H2 Q) : tBM K T f to t σ H Q := h
theorem r_BM0 {T : String} {f : V → List V → Hp → VK → Prop} {to : TE} (h : to σ H fun x H1 => tyV K T x H1 ∧ f x [] H1 Q) : tBM0 K T f to σ H Q := h
theorem r_tyL {p : Addr} {xs : List V} {A : Prop} (h : SqL K H p xs) (k : A) : tyV K "list" (.ref p) H ∧ A := ⟨.inl ⟨rfl, xs, h⟩, k⟩
theorem r_append {l : Addr} {xs : List V} (h : H l = some (.lst xs)) (hl : xs.length < sizeLine) (k : Q .non (upd H l (.lst (xs ++ [y])))) : rAppend (.ref l) [y] H Q := ⟨l, xs, y, rfl, rfl, h, hl, k⟩
theorem r_pop {l : Addr} {xs : List V} (h : H l = some (.lst (xs ++ [y]))) (k : Q y (upd H l (.lst xs))) : rPop (.ref l) [] H Q :=
  ⟨l, xs ++ [y], y, rfl, rfl, h, by simp, by rw [List.dropLast_concat]; exact k⟩
theorem r_lenL {a : Addr} {xs : List V} (h : SqL K H a xs) (k : Q (.int (xs.length : Nat)) H) : cLen K [.ref a] H Q := ⟨a, xs, rfl, .inl h, k⟩
theorem r_lenT {a : Addr} {xs : List V} (h : SqT K H a xs) (k : Q (.int (xs.length : Nat)) H) : cLen K [.ref a] H Q := ⟨a, xs, rfl, .inr h, k⟩
theorem r_int1 {i : Int} (k : Q (.int i) H) : cInt [.int i] H Q := .inl ⟨i, rfl, k⟩
theorem r_intB {b : Bool} (k : Q (.int (if b = true then 1 else 0)) H) : cInt [.bl b] H Q := .inr ⟨b, rfl, k⟩
theorem r_max {i j : Int} (k : Q (.int (if j > i then j else i)) H) : cMax [.int i, .int j] H Q := ⟨i, j, rfl, k⟩
theorem r_min {i j : Int} (k : Q (.int (if j < i then j else i)) H) : cMin [.int i, .int j] H Q := ⟨i, j, rfl, k⟩
theorem r_lstL {a : Addr} {xs : List V} (h : SqL K H a xs) (k : ∀ l, H l = none → Q (.ref l) (upd H l (.lst xs))) : cLst K [.ref a] H Q := ⟨a, xs, rfl, .inl h, k⟩
theorem r_lstT {a : Addr} {xs : List V} (h : SqT K H a xs) (k : ∀ l, H l = none → Q (.ref l) (upd H l (.lst xs))) : cLst K [.ref a] H Q := ⟨a, xs, rfl, .inr h, k⟩
theorem r_tupL {a : Addr} {xs : List V} (h : SqL K H a xs) (k : ∀ l, H l = none → Q (.ref l) (upd H l (.tup xs))) : cTup K [.ref a] H Q := ⟨a, xs, rfl, .inl ⟨h, k⟩⟩
theorem r_tupT {a : Addr} {xs : List V} (h : SqT K H a xs) (k : Q (.ref a) H) : cTup K [.ref a] H Q := ⟨a, xs, rfl, .inr ⟨h, k⟩⟩
theorem r_isN {x : V} (k : Q (.bl (decide (x = .non))) H) : oIsN x .non H Q := ⟨rfl, k⟩
theorem r_notN {x : V} (k : Q (.bl (!decide (x = .non))) H) : oNotN x .non H Q := ⟨rfl, k⟩
theorem atI_get {xs : List V} {i : Int} {v : V} (h0 : 0 ≤ i) (h : xs[i.toNat]? = some v) : atI xs i = some v := by
  have e : ((i.toNat : Nat) : Int) = i := by omega
  have q := atI_nat (j := i.toNat) h
  rwa [e] at q
theorem ixN_get {n : Nat} {i : Int} (h0 : 0 ≤ i) (h : i < n) : ixN n i = some i.toNat := by
  unfold ixN
  rw [if_pos h0, if_pos h]
theorem r_ix {p : Addr} {xs : List V} {i : Int} (h : SqL K H p xs) (h0 : 0 ≤ i) (h1 : i < xs.length) (k : ∀ v, xs[i.toNat]? = some v → Q v H) : rIxL K (.ref p) (.int i) H Q := by
  have hl : i.toNat < xs.length := by omega
  exact ⟨p, xs, i, xs[i.toNat], rfl, rfl, h, atI_get h0 (List.getElem?_eq_getElem hl), k _ (List.getElem?_eq_getElem hl)⟩
theorem r_ixT {p : Addr} {xs : List V} {i : Int} (h : SqT K H p xs) (h0 : 0 ≤ i) (h1 : i < xs.length) (k : ∀ v, xs[i.toNat]? = some v → Q v H) : rIxT K (.ref p) (.int i) H Q := by
  have hl : i.toNat < xs.length := by omega
  exact ⟨p, xs, i, xs[i.toNat], rfl, rfl, h, atI_get h0 (List.getElem?_eq_getElem hl), k _ (List.getElem?_eq_getElem hl)⟩
theorem map_get {f : α → β} {xs : List α} {i : Nat} {v : β} (h : (xs.map f)[i]? = some v) : ∃ x, xs[i]? = some x ∧ v = f x := by
  rw [List.getElem?_map] at h
  cases e : xs[i]? with
  | none =>
    rw [e] at h
    cases h
  | some x =>
    rw [e] at h
    exact ⟨x, rfl, (Option.some.inj h).symm⟩
theorem r_ixI {p : Addr} {ns : List Int} {i : Int} (h : SqL K H p (ns.map V.int)) (h0 : 0 ≤ i) (h1 : i < ns.length) (k : ∀ n, ns[i.toNat]? = some n → Q (.int n) H) : rIxL K (.ref p) (.int i) H Q :=
  r_ix h h0 (by rw [List.length_map]; exact h1) fun v e => by
    obtain ⟨n, e1, rfl⟩ := map_get e
    exact k n e1
theorem r_ixTI {p : Addr} {ns : List Int} {i : Int} (h : SqT K H p (ns.map V.int)) (h0 : 0 ≤ i) (h1 : i < ns.length) (k : ∀ n, ns[i.toNat]? = some n → Q (.int n) H) : rIxT K (.ref p) (.int i) H Q :=
  r_ixT h h0 (by rw [List.length_map]; exact h1) fun v e => by
    obtain ⟨n, e1, rfl⟩ := map_get e
    exact k n e1
/-- an item of data -/
theorem r_ixD {x : V} {ds : List PyData} {i : Int} (h : Dp K H x (.list ds)) (h0 : 0 ≤ i) (h1 : i < ds.length) (k : ∀ v d, ds[i.toNat]? = some d → Dp K H v d → Q v H) : rIxL K x (.int i) H Q := by
  obtain ⟨a, vs, rfl, s, t⟩ := dp_list' h
  refine r_ix s h0 (by rw [dps_len t]; exact h1) fun v e => ?_
  obtain ⟨d, e1, e2⟩ := dps_get' t e
  exact k v d e1 e2
theorem r_ixTD {x : V} {ds : List PyData} {i : Int} (h : Dp K H x (.tuple ds)) (h0 : 0 ≤ i) (h1 : i < ds.length) (k : ∀ v d, ds[i.toNat]? = some d → Dp K H v d → Q v H) : rIxT K x (.int i) H Q := by
  obtain ⟨a, vs, rfl, s, t⟩ := dp_tup' h
  refine r_ixT s h0 (by rw [dps_len t]; exact h1) fun v e => ?_
  obtain ⟨d, e1, e2⟩ := dps_get' t e
  exact k v d e1 e2
/-- the same, the item named -/
theorem r_ixd {x : V} {ds : List PyData} {i : Int} {d : PyData} (h : Dp K H x (.list ds)) (h0 : 0 ≤ i) (e : ds[i.toNat]? = some d) (k : ∀ v, Dp K H v d → Q v H) : rIxL K x (.int i) H Q := by
  have hl := (List.getElem?_eq_some_iff.mp e).1
  refine r_ixD h h0 (by omega) fun v d' e' q => k v ?_
  rw [e] at e'
  cases e'
  exact q
theorem r_ixtd {x : V} {ds : List PyData} {i : Int} {d : PyData} (h : Dp K H x (.tuple ds)) (h0 : 0 ≤ i) (e : ds[i.toNat]? = some d) (k : ∀ v, Dp K H v d → Q v H) : rIxT K x (.int i) H Q := by
  have hl := (List.getElem?_eq_some_iff.mp e).1
  refine r_ixTD h h0 (by omega) fun v d' e' q => k v ?_
  rw [e] at e'
  cases e'
  exact q
theorem r_last {p : Addr} {xs : List V} {v : V} (h : SqL K H p (xs ++ [v])) (k : Q v H) : rIxL K (.ref p) (.int (-1)) H Q := ⟨p, xs ++ [v], -1, v, rfl, rfl, h, atI_last xs v, k⟩
theorem r_set {p : Addr} {xs : List V} {i : Int} {R : Hp → Prop} (h : H p = some (.lst xs)) (h0 : 0 ≤ i) (h1 : i < xs.length) (k : R (upd H p (.lst (xs.set i.toNat v)))) : rSetL (.ref p) (.int i) v H R :=
  ⟨p, xs, i, i.toNat, rfl, rfl, h, ixN_get h0 h1, k⟩
theorem r_cat {a b : Addr} {xs ys : List V} (ha : H a = some (.lst xs)) (hb : H b = some (.lst ys)) (hl : xs.length + ys.length ≤ sizeLine) (k : ∀ p, H p = none → Q (.ref p) (upd H p (.lst (xs ++ ys)))) : rCat (.ref a) (.ref b) H Q := ⟨a, b, xs, ys, rfl, rfl, ha, hb, hl, k⟩
theorem rep_one {n : Nat} {v : V} : (List.replicate n [v]).flatten = List.replicate n v := by
  induction n with
  | zero => rfl
  | succ n ih => rw [List.replicate_succ, List.flatten_cons, ih]; rfl
theorem r_rep1 {a : Addr} {v : V} {n : Int} (ha : H a = some (.lst [v])) (h0 : 0 ≤ n) (hl : n ≤ 100000) (k : ∀ p, H p = none → Q (.ref p) (upd H p (.lst (List.replicate n.toNat v)))) : rRep (.ref a) (.int n) H Q :=
  ⟨a, n, [v], rfl, rfl, ha, by omega, by omega, by rw [sizeLine_eq]; show 1 * n.toNat ≤ _; omega, fun p hp => by rw [rep_one]; exact k p hp⟩
theorem r_pop0 {l : Addr} {xs : List V} (h : H l = some (.lst (y :: xs))) (k : Q y (upd H l (.lst xs))) : rPopAt (.ref l) [.int 0] H Q :=
  ⟨l, y :: xs, 0, 0, y, rfl, rfl, h, by omega, by omega, by (unfold seqIndex?; rw [List.length_cons]; simp), rfl, k⟩
theorem r_eqD {d e : PyData} (hd : Dp K H x d) (he : Dp K H y e) (sd : SeqAt.shaped d = true) (se : SeqAt.shaped e = true) (k : Q (.bl (PyData.eqv d e)) H) : rEqD K x y H Q := ⟨d, e, hd, he, sd, se, k⟩
theorem r_neD {d e : PyData} (hd : Dp K H x d) (he : Dp K H y e) (sd : SeqAt.shaped d = true) (se : SeqAt.shaped e = true) (k : Q (.bl (!PyData.eqv d e)) H) : rNeD K x y H Q := ⟨d, e, hd, he, sd, se, k⟩
theorem ifd {p : Prop} {_ : Decidable p} {A B : Prop} (h1 : p → A) (h2 : ¬ p → B) : if decide p = true then A else B := by
  by_cases h : p
  · rw [if_pos (decide_eq_true h)]
    exact h1 h
  · rw [if_neg (by rw [decide_eq_false h]; exact Bool.false_ne_true)]
    exact h2 h
theorem ifnd {p : Prop} {_ : Decidable p} {A B : Prop} (h1 : ¬ p → A) (h2 : p → B) : if (!decide p) = true then A else B := by
  by_cases h : p
  · rw [if_neg (by rw [decide_eq_true h]; decide)]
    exact h2 h
  · rw [if_pos (by rw [decide_eq_false h]; rfl)]
    exact h1 h
theorem ifb {b : Bool} {A B : Prop} (h1 : b = true → A) (h2 : b = false → B) : if b = true then A else B := by
  cases b with
  | true => exact iteT (h1 rfl)
  | false => exact iteF (h2 rfl)
theorem ifnb {b : Bool} {A B : Prop} (h1 : b = false → A) (h2 : b = true → B) : if (!b) = true then A else B := by
  cases b with
  | true => exact iteF (h2 rfl)
  | false => exact iteT (h1 rfl)
theorem nxK {CX : CXT} {P : Program} {w : World} {K : PySem.W.Frag} {mg : Str → Option Value} {base : Heap} {N : List Str} {qual : Str} {scope : Scope} {f : Addr} {cd : Value} {A : Around} {outer : List Env} {s : Shared} {H : Hp} {E : XK} : (cxOf CX P w K mg base N qual scope f cd A outer s H E).nox.K = K := rfl
theorem cxK {CX : CXT} {P : Program} {w : World} {K : PySem.W.Frag} {mg : Str → Option Value} {base : Heap} {N : List Str} {qual : Str} {scope : Scope} {f : Addr} {cd : Value} {A : Around} {outer : List Env} {s : Shared} {H : Hp} {E : XK} : (cxOf CX P w K mg base N qual scope f cd A outer s H E).K = K := rfl
theorem szl {n : Nat} (h : n ≤ 100000) : n ≤ sizeLine := Nat.le_trans h (by decide)
theorem szlt {n : Nat} (h : n < 100000) : n < sizeLine := Nat.lt_of_lt_of_le h (by decide)
end
/-! ### shapes of data -/
theorem shapedI (ns : List Int) : SeqAt.shaped (dI ns) = true := by
  have h1 : ∀ ns : List Int, PyData.canLayAll0 (ns.map PyData.int) = true := by
    intro ns
    induction ns with
    | nil => rfl
    | cons n r ih =>
      rw [List.map_cons]
      simp only [PyData.canLayAll0, PyData.canLay0, Bool.true_and]
      exact ih
  have h2 : ∀ ns : List Int, PyData.depthAll (ns.map PyData.int) ≤ 1 := by
    intro ns
    induction ns with
    | nil => simp [PyData.depthAll]
    | cons n r ih =>
      rw [List.map_cons]
      simp only [PyData.depthAll, PyData.depth]
      omega
  unfold SeqAt.shaped
  simp only [PyData.canLay0, PyData.depth, h1 ns, Bool.true_and, decide_eq_true_eq]
  have h3 := h2 ns
  exact decide_eq_true (by omega)
theorem eqvI : ∀ ns ms : List Int, PyData.eqv (dI ns) (dI ms) = decide (ns = ms) := by
  have key : ∀ ns ms : List Int, PyData.eqvAll (ns.map PyData.int) (ms.map PyData.int) = decide (ns = ms) := by
    intro ns
    induction ns with
    | nil =>
      intro ms
      cases ms with
      | nil => rfl
      | cons m s => rfl
    | cons n r ih =>
      intro ms
      cases ms with
      | nil => rfl
      | cons m s =>
        rw [List.map_cons, List.map_cons]
        simp only [PyData.eqvAll, PyData.eqv, ih s]
        by_cases h : n = m
        · subst h
          simp
        · simp [h]
  intro ns ms
  simp only [PyData.eqv]
  exact key ns ms
/-! ### the pool of numbers that a law draws from -/
def iLs (ns : List Int) : HO := .lst (ns.map V.int)
def PoolOk (ns : List Int) : Prop := (∀ n ∈ ns, 0 ≤ n) ∧ ns.length ≤ 64
theorem fmod_in {n b : Int} (hb : 0 < b) : 0 ≤ n.fmod b ∧ n.fmod b < b := by
  rw [Int.fmod_eq_emod_of_nonneg n (Int.le_of_lt hb)]
  exact ⟨Int.emod_nonneg n (by omega), Int.emod_lt_of_pos n hb⟩
theorem fdiv_nn {n b : Int} (hn : 0 ≤ n) (hb : 0 < b) : 0 ≤ n.fdiv b := by
  rw [Int.fdiv_eq_ediv_of_nonneg n (Int.le_of_lt hb)]
  exact Int.ediv_nonneg hn (by omega)
end PT

namespace PT
open PySem L2
/-! ### loops and comprehensions -/
section
variable {K : PySem.W.Frag} {D : Ends} {σ : L2.St} {H : Hp} {Q : VK} {ta tb te tl : TE} {t u : TS} {c : TT} {g : TG} {x y v : V}
def ForP (n : Nat) (G : Hp → Prop) (Y : Nat → Hp → V → Hp → Prop) (g : TG) (u : TS) (D : Ends) (σ : L2.St) (H1 : Hp) : Prop :=
  ∃ Pv : Nat → L2.St → Hp → Prop, Pv 0 σ H1 ∧ (∀ i σ H, i ≤ n → Pv i σ H → G H) ∧
    (∀ i x σ H H', i < n → Pv i σ H → Y i H x H' → g x σ H' fun σ2 H2 => u { D with nx := Pv (i + 1), ct := Pv (i + 1), bk := D.nx } σ2 H2) ∧ ∀ σ H, Pv n σ H → D.nx σ H
/-- what a for asks of what it walks -/
def ForJ (g : TG) (u : TS) (D : Ends) (σ : L2.St) (J : It) (H1 : Hp) : Prop := ∃ W : Nat → Nat → L2.St → Hp → Prop, (∃ m, W 0 m σ H1) ∧ ∀ i m σ H, W i m σ H →
  (J.stop i H ∧ D.nx σ H) ∨ (J.go i H ∧ ∃ N : L2.St → Hp → Prop, (∀ σ' H', N σ' H' → ∃ m', m' < m ∧ W (i + 1) m' σ' H') ∧ ∀ x H', J.yld i H x H' → g x σ H' fun σ2 H2 => u { D with nx := N, ct := N, bk := D.nx } σ2 H2)
theorem r_for {wi : TI} (h : wi σ H fun J H1 => ForJ g u D σ J H1) : tFor wi g u D σ H := h
theorem forJ {J : It} {n : Nat} {G : Hp → Prop} {Y : Nat → Hp → V → Hp → Prop} (w : Walk J n G Y) (h : ForP n G Y g u D σ H) : ForJ g u D σ J H := by
  obtain ⟨Pv, h0, hG, h1, h2⟩ := h
  exact for_it w Pv h0 hG h1 h2
def YR : Nat → Hp → V → Hp → Prop := fun i H x H' => H' = H ∧ x = V.int (i : Nat)
theorem walkR {n : Nat} : Walk (Itr 0 n) n (fun _ => True) YR := walk_range.mono (fun _ h => h) fun i H x H' _ _ y => ⟨y.1, by rw [y.2]; show V.int (0 + (i : Int)) = V.int (i : Int); rw [Int.zero_add]⟩
def YR2 (lo : Int) : Nat → Hp → V → Hp → Prop := fun i H x H' => H' = H ∧ x = V.int (lo + (i : Int))
theorem walkR2 {lo : Int} {n : Nat} : Walk (Itr lo n) n (fun _ => True) (YR2 lo) := walk_range.mono (fun _ h => h) fun i H x H' _ _ y => y
theorem r_iL {R : It → Hp → Prop} (h : tl σ H fun x H1 => ∃ a, x = V.ref a ∧ (∃ xs, SqL K H1 a xs) ∧ R (Itl K a) H1) : iList K tl σ H R := h
theorem r_iT {R : It → Hp → Prop} (h : tl σ H fun x H1 => ∃ a, x = V.ref a ∧ (∃ xs, SqT K H1 a xs) ∧ R (Itt K a) H1) : iTup K tl σ H R := h
theorem r_iR1 {ta : TA} {R : It → Hp → Prop} (h : ta σ H fun vs H1 => ∃ j : Int, vs = [.int j] ∧ -(2 ^ 62) ≤ j ∧ j < 2 ^ 62 ∧ R (Itr 0 j.toNat) H1) : iRng1 ta σ H R := h
theorem r_iR2 {ta : TA} {R : It → Hp → Prop} (h : ta σ H fun vs H1 => ∃ i j : Int, vs = [.int i, .int j] ∧ (-(2 ^ 62) ≤ i ∧ i < 2 ^ 62 ∧ -(2 ^ 62) ≤ j ∧ j < 2 ^ 62) ∧ R (Itr i (j - i).toNat) H1) : iRng2 ta σ H R := h
theorem r_iE {ta : TA} {R : It → Hp → Prop} (h : ta σ H fun vs H1 => ∃ a xs, vs = [.ref a] ∧ SqL K H1 a xs ∧ R (Ite K a) H1) : iEnum K ta σ H R := h
/-- a while, with what holds at each turn and a number that falls -/
theorem r_while (Pv : Nat → L2.St → Hp → Prop) (m : Nat) (h0 : Pv m σ H)
    (hs : ∀ m σ H, Pv m σ H → c σ H fun b H1 => if b = true then ∃ N : L2.St → Hp → Prop, (∀ σ' H', N σ' H' → ∃ m', m' < m ∧ Pv m' σ' H') ∧ u { D with nx := N, ct := N, bk := D.nx } σ H1 else D.nx σ H1) : tWhile c u D σ H := ⟨Pv, ⟨m, h0⟩, hs⟩
theorem wh {m : Nat} {Pv : Nat → L2.St → Hp → Prop} (h : u { D with nx := fun σ' H' => ∃ m', m' < m ∧ Pv m' σ' H', ct := fun σ' H' => ∃ m', m' < m ∧ Pv m' σ' H', bk := D.nx } σ H) :
    ∃ N : L2.St → Hp → Prop, (∀ σ' H', N σ' H' → ∃ m', m' < m ∧ Pv m' σ' H') ∧ u { D with nx := N, ct := N, bk := D.nx } σ H := ⟨_, fun _ _ h => h, h⟩
theorem wo_none {H : Hp} {p : Addr} (h : H p = none) : wo H p = H := by
  funext b
  by_cases e : b = p
  · rw [e, wo_at, h]
  · exact wo_ne e
/-- a comprehension that leaves all as it was but for its own list: I i acc G, G the heap without that list -/
def LcPv (H1 : Hp) (p : Addr) (I : Nat → List V → Hp → Prop) (i : Nat) (H : Hp) : Prop := Same H1 H ∧ ∃ acc, H p = some (.lst acc) ∧ acc.length ≤ i ∧ I i acc (wo H p)
def LcP (n : Nat) (Y : Nat → Hp → V → Hp → Prop) (g : TG) (tt : TT) (te : TE) (vs : List Nat) (σ : L2.St) (H1 : Hp) (Q : VK) : Prop :=
  n ≤ 100000 ∧ ∀ p, H1 p = none → ∃ I : Nat → List V → Hp → Prop, I 0 [] H1 ∧
    (∀ i x acc H2 H3, i < n → Y i H2 x H3 → Same H1 H2 → H2 p = some (.lst acc) → acc.length ≤ i → I i acc (wo H2 p) →
      g x (wipe σ vs) H3 fun σ2 H4 => wipe σ2 vs = wipe σ vs ∧ tt σ2 H4 fun b H5 => if b = true then te σ2 H5 fun y H6 => ∃ acc, H6 p = some (.lst acc) ∧ acc.length < sizeLine ∧ LcPv H1 p I (i + 1) (upd H6 p (.lst (acc ++ [y]))) else LcPv H1 p I (i + 1) H5) ∧
    ∀ acc H2, Same H1 H2 → H2 p = some (.lst acc) → acc.length ≤ n → I n acc (wo H2 p) → Q (.ref p) H2
theorem lcIn {H1 H6 : Hp} {p : Addr} {I : Nat → List V → Hp → Prop} {i : Nat} {acc : List V} (hs : Same H1 H6) (h1 : H1 p = none) (ha : H6 p = some (.lst acc)) (hl : acc.length ≤ i) (hi : i < 100000) (q : I (i + 1) (acc ++ [y]) (wo H6 p)) :
    ∃ acc, H6 p = some (.lst acc) ∧ acc.length < sizeLine ∧ LcPv H1 p I (i + 1) (upd H6 p (.lst (acc ++ [y]))) :=
  ⟨acc, ha, szlt (by omega), sm_mut hs h1, acc ++ [y], upd_same, by rw [List.length_append, List.length_singleton]; omega, by rw [wo_upd]; exact q⟩
theorem lcOut {H1 H6 : Hp} {p : Addr} {I : Nat → List V → Hp → Prop} {i : Nat} {acc : List V} (hs : Same H1 H6) (ha : H6 p = some (.lst acc)) (hl : acc.length ≤ i) (q : I (i + 1) acc (wo H6 p)) : LcPv H1 p I (i + 1) H6 := ⟨hs, acc, ha, by omega, q⟩
def LcJ (g : TG) (tt : TT) (te : TE) (vs : List Nat) (σ : L2.St) (Q : VK) (J : It) (H1 : Hp) : Prop := ∀ p, H1 p = none → ∃ W : Nat → Nat → Hp → Prop, (∃ m, W 0 m (upd H1 p (.lst []))) ∧ ∀ i m H, W i m H →
  (J.stop i H ∧ Q (.ref p) H) ∨ (J.go i H ∧ ∃ Nx : Hp → Prop, (∀ H', Nx H' → ∃ m', m' < m ∧ W (i + 1) m' H') ∧ ∀ x H', J.yld i H x H' → g x (wipe σ vs) H' fun σ2 H2 => wipe σ2 vs = wipe σ vs ∧ tt σ2 H2 fun b H3 =>
    if b = true then te σ2 H3 fun y H4 => ∃ acc, H4 p = some (.lst acc) ∧ acc.length < sizeLine ∧ Nx (upd H4 p (.lst (acc ++ [y]))) else Nx H3)
theorem r_lc {wi : TI} {tt : TT} {vs : List Nat} (h : wi σ H fun J H1 => LcJ g tt te vs σ Q J H1) : tLc wi g tt te vs σ H Q := h
theorem lcJ {J : It} {n : Nat} {G : Hp → Prop} {Y : Nat → Hp → V → Hp → Prop} {tt : TT} {vs : List Nat} {H1 : Hp} (w : Walk J n G Y) (hG : ∀ H, Same H1 H → G H) (h : LcP n Y g tt te vs σ H1 Q) : LcJ g tt te vs σ Q J H1 := by
  intro p hp
  obtain ⟨hn, h⟩ := h
  obtain ⟨I, h0, hs, hd⟩ := h p hp
  refine lc_it w (LcPv H1 p I) ⟨sm_up hp, [], upd_same, Nat.le_refl _, ?_⟩ (fun i H _ q => hG H q.1) ?_ ?_
  · rw [wo_upd, wo_none hp]
    exact h0
  · rintro i x H2 H3 hi ⟨s, acc, ha, hl, q⟩ y
    exact hs i x acc H2 H3 hi y s ha hl q
  · rintro H2 ⟨s, acc, ha, hl, q⟩
    exact hd acc H2 s ha hl q
theorem r_sl {r : V → Option Int → Option Int → Hp → VK → Prop} {lo hi : TO} (h : te σ H fun x H1 => lo σ H1 fun l H2 => hi σ H2 fun u H3 => r x l u H3 Q) : tSl r te lo hi σ H Q := h
theorem r_nop {R : Option Int → Hp → Prop} (h : R none H) : tNoPart σ H R := h
theorem r_part {R : Option Int → Hp → Prop} (h : te σ H fun x H1 => ∃ i, x = V.int i ∧ R (some i) H1) : tPart te σ H R := h
theorem r_exi {i : Int} {F : Int → Prop} (h : F i) : ∃ j, V.int i = .int j ∧ F j := ⟨i, rfl, h⟩
theorem r_slL {a : Addr} {xs : List V} {lo hi : Option Int} (h : SqL K H a xs) (k : ∀ p, H p = none → Q (.ref p) (upd H p (.lst (cutV xs lo hi)))) : rSlL K (.ref a) lo hi H Q := ⟨a, xs, rfl, h, k⟩
theorem cutI (ns : List Int) (lo hi : Option Int) : ∃ ms : List Int, cutV (ns.map V.int) lo hi = ms.map V.int ∧ ms.length ≤ ns.length := by
  unfold cutV
  refine ⟨_, by rw [← List.map_drop, ← List.map_take], ?_⟩
  rw [List.length_take, List.length_drop]
  omega
theorem r_sum {a : Addr} {ns : List Int} (h : SqL K H a (ns.map V.int)) (k : Q (.int ns.sum) H) : rSum K [.ref a] H Q := ⟨a, ns, rfl, h, k⟩
theorem r_mul {i j : Int} (q : CMul i j) (h : Q (.int (i * j)) H) : rI CMul (fun i j => .int (i * j)) (.int i) (.int j) H Q := ⟨i, j, rfl, rfl, q, h⟩
/-- a test that changes nothing, by its answer -/
theorem r_ifT {t u : TS} (b : Bool) (h : ∀ R : Bool → Hp → Prop, R b H → c σ H R) (k1 : b = true → t D σ H) (k2 : b = false → u D σ H) : tIfS c t u D σ H := by
  refine h _ ?_
  cases b with
  | true => exact iteT (k1 rfl)
  | false => exact iteF (k2 rfl)
theorem r_andV (h : ta σ H fun x H1 => ∃ c, x = V.bl c ∧ if c = true then tb σ H1 Q else Q (.bl false) H1) : tAndV ta tb σ H Q := h
theorem r_orV (h : ta σ H fun x H1 => ∃ c, x = V.bl c ∧ if c = true then Q (.bl true) H1 else tb σ H1 Q) : tOrV ta tb σ H Q := h
theorem r_notV (h : ta σ H fun x H1 => ∃ c, x = V.bl c ∧ Q (.bl (!c)) H1) : tNotV ta σ H Q := h
theorem r_dnewK (h : ∀ p, H p = none → Q (.ref p) (upd H p (.dK []))) : tDNewK σ H Q := h
theorem r_dput {td ty tv : TE} (h : tv σ H fun v H1 => td σ H1 fun x H2 => ty σ H2 fun y H3 => ∃ a H4, x = V.ref a ∧ DPut H3 a y v H4 ∧ D.nx σ H4) : sDPut td ty tv D σ H := h
theorem r_dget1 {td ty : TE} (h : td σ H fun x H1 => ∃ a, x = V.ref a ∧ IsD H1 a ∧ ty σ H1 fun y H2 => ∃ o, DGet H2 a y o ∧ Q (o.getD .non) H2) : tDGet1 td ty σ H Q := h
theorem r_dget {td ty : TE} (h : td σ H fun x H1 => ty σ H1 fun y H2 => ∃ a v, x = V.ref a ∧ DGet H2 a y (some v) ∧ Q v H2) : tDGet td ty σ H Q := h
theorem r_din {td ty : TE} (h : ty σ H fun y H1 => td σ H1 fun x H2 => ∃ a o, x = V.ref a ∧ DGet H2 a y o ∧ Q (.bl o.isSome) H2) : tDIn ty td σ H Q := h
theorem r_dnotin {td ty : TE} (h : ty σ H fun y H1 => td σ H1 fun x H2 => ∃ a o, x = V.ref a ∧ DGet H2 a y o ∧ Q (.bl (!o.isSome)) H2) : tDNotIn ty td σ H Q := h
theorem r_yes {R : Bool → Hp → Prop} (h : R true H) : tYes σ H R := h
end

end PT
namespace PT
open PySem L2
/-! ### tuples as targets, fields, methods, classes -/
section
variable {K : PySem.W.Frag} {D : Ends} {σ : L2.St} {H : Hp} {Q : VK} {ta tb te tl tv : TE} {t u : TS} {c : TT} {g : TG} {x y v : V} {S : L2.St → Hp → Prop}
theorem r_gtup {a : Addr} {n : Nat} {tg : TGs} (h : ∃ xs, SqT K H a xs ∧ xs.length = n ∧ tg xs σ H S) : gTup K n tg (.ref a) σ H S := let ⟨xs, h, hl, k⟩ := h; ⟨a, xs, rfl, h, hl, k⟩
theorem r_gcons {tg : TG} {ug : TGs} {vs : List V} (k : tg v σ H fun σ' H' => ug vs σ' H' S) : gCons tg ug (v :: vs) σ H S := ⟨v, vs, rfl, k⟩
theorem r_gnil (k : S σ H) : gNil [] σ H S := ⟨rfl, k⟩
def FldJ (K : PySem.W.Frag) (f : Str) (Q : VK) (x : V) (H1 : Hp) : Prop := ∃ a C dx fs v, x = .ref a ∧ H1 a = some (.ins C dx fs) ∧ Cls K C ∧ NoAttr K C f ∧ fs.lookup f = some v ∧ Q v H1
theorem r_fld0 {f : Str} (h : ta σ H fun x H1 => FldJ K f Q x H1) : tFld K ta f σ H Q := h
theorem r_fld1 {a : Addr} {f : Str} (h : ∃ C dx fs v, H a = some (.ins C dx fs) ∧ Cls K C ∧ NoAttr K C f ∧ fs.lookup f = some v ∧ Q v H) : FldJ K f Q (.ref a) H := let ⟨C, dx, fs, v, h, cl, n, l, k⟩ := h; ⟨a, C, dx, fs, v, rfl, h, cl, n, l, k⟩
def SFldJ (K : PySem.W.Frag) (f : Str) (y : V) (x : V) (H2 : Hp) (R : Hp → Prop) : Prop := ∃ a C dx fs, x = .ref a ∧ H2 a = some (.ins C dx fs) ∧ Cls K C ∧ NoAttr K C f ∧ fs.length < 1000 ∧ R (upd H2 a (.ins C dx (putF f y fs)))
theorem r_sfld0 {f : Str} (h : tv σ H fun y H1 => ta σ H1 fun x H2 => SFldJ K f y x H2 (D.nx σ)) : sFld K ta tv f D σ H := h
theorem r_sfld1 {a : Addr} {f : Str} {R : Hp → Prop} (h : ∃ C dx fs fs', H a = some (.ins C dx fs) ∧ Cls K C ∧ NoAttr K C f ∧ fs.length < 1000 ∧ putF f y fs = fs' ∧ R (upd H a (.ins C dx fs'))) : SFldJ K f y (.ref a) H R := let ⟨C, dx, fs, fs', h, cl, n, hl, e, k⟩ := h; ⟨a, C, dx, fs, rfl, h, cl, n, hl, by rw [e]; exact k⟩
def MethJ (C : Addr) (m : Str) (sp : Sp) (dvs : List V) (E : XK) (t : TA) (σ : L2.St) (Q : VK) (x : V) (H1 : Hp) : Prop := ∃ a dx fs, x = .ref a ∧ H1 a = some (.ins C dx fs) ∧ fs.lookup m = none ∧ t σ H1 fun vs H2 => sp (x :: (vs ++ dvs)) H2 Q E
theorem r_meth0 {C : Addr} {m : Str} {sp : Sp} {dvs : List V} {E : XK} {t : TA} (h : ta σ H fun x H1 => MethJ C m sp dvs E t σ Q x H1) : tMeth C m sp dvs E ta t σ H Q := h
theorem r_meth1 {a C : Addr} {m : Str} {sp : Sp} {dvs : List V} {E : XK} {t : TA} (h : ∃ dx fs, H a = some (.ins C dx fs) ∧ fs.lookup m = none ∧ t σ H fun vs H2 => sp (.ref a :: (vs ++ dvs)) H2 Q E) : MethJ C m sp dvs E t σ Q (.ref a) H := let ⟨dx, fs, h, l, k⟩ := h; ⟨a, dx, fs, rfl, h, l, k⟩
def PropJ (C : Addr) (sp : Sp) (dvs : List V) (E : XK) (Q : VK) (x : V) (H1 : Hp) : Prop := ∃ a dx fs, x = .ref a ∧ H1 a = some (.ins C dx fs) ∧ sp (.ref a :: dvs) H1 Q E
theorem r_prop0 {C : Addr} {sp : Sp} {dvs : List V} {E : XK} (h : ta σ H fun x H1 => PropJ C sp dvs E Q x H1) : tProp C sp dvs E ta σ H Q := h
theorem r_prop1 {a C : Addr} {sp : Sp} {dvs : List V} {E : XK} (h : ∃ dx fs, H a = some (.ins C dx fs) ∧ sp (.ref a :: dvs) H Q E) : PropJ C sp dvs E Q (.ref a) H := let ⟨dx, fs, h, k⟩ := h; ⟨a, dx, fs, rfl, h, k⟩
theorem r_make {C : Addr} {sp : Sp} {dvs : List V} {E : XK} {t : TA} (h : t σ H fun vs H1 => ∀ x dx, H1 x = none → H1 dx = none → dx ≠ x → sp (.ref x :: (vs ++ dvs)) (upd (upd H1 dx (.own x)) x (.ins C dx [])) (fun v H2 => v = .non ∧ Q (.ref x) H2) E) : tMake C sp dvs E t σ H Q := h
theorem r_tT {A B : Hp → Prop} (b : Bool) (h : ∀ R : Bool → Hp → Prop, R b H → c σ H R) (k1 : b = true → A H) (k2 : b = false → B H) : c σ H fun b H1 => if b = true then A H1 else B H1 := by
  refine h _ ?_
  cases b with
  | true => exact iteT (k1 rfl)
  | false => exact iteF (k2 rfl)
theorem r_dnewT (h : ∀ p, H p = none → Q (.ref p) (upd H p (.dT []))) : tDNewT σ H Q := h
theorem r_revR {R : It → Hp → Prop} {tr : L2.St → Hp → (Int → Int → Hp → Prop) → Prop} (h : tr σ H fun a b H1 => -(2 ^ 62) ≤ a ∧ a < 2 ^ 62 ∧ -(2 ^ 62) ≤ b ∧ b < 2 ^ 62 ∧ R (Itc (a + (((b - a).toNat : Nat) : Int) - 1) (-1) (b - a).toNat) H1) : iRevR tr σ H R := h
theorem r_rg1 {R : Int → Int → Hp → Prop} (h : ta σ H fun x H1 => ∃ n, x = V.int n ∧ R 0 n H1) : tRg1 ta σ H R := h
end
section
variable {K : PySem.W.Frag} {H : Hp}
theorem sqt_at {a : Addr} {xs : List V} (h : H a = some (.tup xs)) : SqT K H a xs := SqT.of h
end

end PT
namespace PT
open PySem L2
section
open PySem.Spec PyProof.Rows
variable {X : Cx}
/-- sorted(d), d a dict of any number of int keys -/
def rSrtD : List V → Hp → VK → Prop := fun xs H Q => ∃ (a : Addr) (kvs : List (Key × V)) (ks : List Int), xs = [.ref a] ∧ H a = some (.dK kvs) ∧ kvs.map (·.1) = ks.map Sum.inl ∧ ks.length ≤ 100000 ∧
  ∀ (ys : List Int) (p : Addr), ys.Perm ks → ys.Pairwise (· ≤ ·) → H p = none → Q (.ref p) (upd H p (.lst (ys.map V.int)))
theorem k_srtD (hcalm : X.calm = true) : CallR X (.builtin "sorted") rSrtD := by
  intro pins s σ H xs us Q I r q
  obtain ⟨a, kvs, ks, ex, hd, hks, hmany, q⟩ := q
  subst ex
  obtain ⟨u, eu, rx⟩ := vals1 r
  subst eu
  cases rx
  obtain ⟨z, lo, vs, rel, dd⟩ := dk_rd I.hok (show Rd H a (.dK kvs) from .inl hd)
  obtain ⟨ep, hat⟩ := dd.dictAt
  have hkeys : vs.map (·.1) = ks.map Sum.inl := rel.keys.symm.trans hks
  have hl : vs.length = ks.length := by simpa using congrArg List.length hkeys
  have h16 : vs.length ≤ sizeLine := by rw [hl]; exact szl hmany
  refine Calls.call_function_entry PyProof.Rows.kind_sorted PyProof.Rows.plain_sorted PyProof.Rows.entry_sorted (PyProof.Rows.args_sorted1 _) ?_
  unfold Builtin.«sorted»
  refine wpAny_bind (m := checkCount "sorted" 1 1 _) (wpAny_pure ?_)
  refine wpAny_bind (PySem.W.kdu_collect (A := X.A.in1) (PySem.W.kdl_dict (knd := mixKind X.prog X.w) (kvs := vs) (ep := ep) lo) (I.ok.hd hcalm) hat h16 fun h' tk acc hk hacc => ?_)
  have hal : acc.toList.length = ks.length := by rw [Array.length_toList, hacc.1, hl]
  have hS : IntsAre acc.toList ks := ints_each hal fun j v e => by
    obtain ⟨k, x, e1, e2⟩ := hacc.2 j v (by rw [← Array.getElem?_toList]; exact e)
    have e3 : (vs.map (·.1))[j]? = some k := by rw [List.getElem?_map, e1]; rfl
    rw [hkeys] at e3
    obtain ⟨y, e4, rfl⟩ := map_get e3
    rcases keyIs_shape (show keyIs (Sum.inl y) v = true from e2) with ⟨i, t, ek, ev⟩ | ⟨z, t, ek, ev⟩
    · cases ek
      exact ⟨y, t, e4, ev⟩
    · cases ek
  have I1 : Inv X pins σ H { s with heap := h', toks := tk } := I.kept hk
  have hz : acc.toList.length ≤ sizeLine := by rw [hal]; exact szl hmany
  refine wpAny_bind (wpAny_newList ?_ hz)
  have hoL : (h'.push (seqObj "list" acc.toList.toArray 0)).get? h'.objs.size = some (seqObj "list" acc.toList.toArray 0) := Heap.get?_push_size _ rfl
  show wpAny _ _ _ _ _ { s with heap := h'.push (seqObj "list" acc.toList.toArray 0), toks := tk }
  refine wpAny_bind (wpAny_holding (wpAny_call_entry PyProof.Rows.slot_list_sort ⟨_, hoL, rfl⟩ PyProof.Rows.entry_list_sort
    (SrtO.list_sort_ord (s := { s with heap := h'.push (seqObj "list" acc.toList.toArray 0), toks := tk }) SrtO.swo_int hoL hz (fun h2 => SrtO.ints_sortable hS h2) fun out h1 h2 => ⟨_, rfl, ?_⟩) (PyProof.Rows.args_list_sort _)))
  obtain ⟨k1, k2, k3⟩ := SrtO.ints_out hS h1 h2
  obtain ⟨e', he'⟩ := PyProof.Rows.sortedHeap_at (vs := acc.toList) (out := out.toArray) hoL
  have hlen : ((out.map SrtO.iv).map V.int).length ≤ sizeLine := by
    rw [List.length_map, k2.length_eq]
    exact szl hmany
  refine wpAny_pure ⟨_, rfl, .ref h'.objs.size, upd H h'.objs.size (.lst ((out.map SrtO.iv).map V.int)), I1.laid (t' := tk) (fun b u e => ?_) (Nat.le_refl _)
    (show ObjOk X.prog X.w _ _ _ (.lst ((out.map SrtO.iv).map V.int)) from ⟨hlen, out, e', vals_of_ints k1, he'⟩), rfl, q _ _ k2 k3 (I1.hok.fresh (Nat.le_refl _))⟩
  have hb : b < h'.objs.size := Heap.lt_size e
  rw [PyProof.Rows.sortedHeap_old (Nat.ne_of_lt hb) (by rw [size_push']; exact Nat.lt_succ_of_lt hb)]
  exact Heap.get?_push_of_some _ e
theorem r_srtD {H : Hp} {Q : VK} {a : Addr} {kvs : List (Key × V)} {ks : List Int} (h : H a = some (.dK kvs)) (e : kvs.map (·.1) = ks.map Sum.inl) (hl : ks.length ≤ 100000) (k : ∀ (ys : List Int) (p : Addr), ys.Perm ks → ys.Pairwise (· ≤ ·) → H p = none → Q (.ref p) (upd H p (.lst (ys.map V.int)))) : rSrtD [.ref a] H Q := ⟨a, kvs, ks, rfl, h, e, hl, k⟩
end

end PT
namespace PT
open PySem L2
section
open PySem.Spec PyProof.Rows
variable {X : Cx}
/-- repr(e) of nested lists and tuples of ints and texts, where no repr runs above -/
def rRepr (K : PySem.W.Frag) : List V → Hp → VK → Prop := fun xs H Q => ∃ (a : Addr) (d : PyData), xs = [.ref a] ∧ Dp K H (.ref a) d ∧ d.showable = true ∧ d.hasDict = false ∧ d.depth ≤ 40 ∧ d.shown.length ≤ sizeLine ∧ Q (.str d.shown) H
theorem k_repr (hg : X.A.guards = some []) (hu : X.A.units + 64 < cLine) : CallR X (.builtin "repr") (rRepr X.K) := by
  intro pins s σ H xs us Q I r h
  obtain ⟨a, d, rfl, hd, hs, hdict, hdep, hsz, q⟩ := h
  obtain ⟨u, rfl, ru⟩ := vals1 r
  cases ru
  obtain ⟨as, hr⟩ := Dp.reads I d (.ref a) (.ref a) hd rfl
  refine PySem.repr_of_reads' hr hs (fun e => by rw [hdict] at e; cases e) hg (by omega) (fun b o e => e) (fun h' u tk hk => ?_) hsz
  exact ⟨.str d.shown, H, I.kept hk, ⟨u, rfl⟩, q⟩
theorem r_repr {K : PySem.W.Frag} {H : Hp} {Q : VK} {a : Addr} {d : PyData} (hd : Dp K H (.ref a) d) (hs : d.showable = true) (hn : d.hasDict = false) (hp : d.depth ≤ 40) (hz : d.shown.length ≤ sizeLine) (k : Q (.str d.shown) H) : rRepr K [.ref a] H Q := ⟨a, d, rfl, hd, hs, hn, hp, hz, k⟩
/-- a promise that holds where no repr runs above -/
structure FnOkG (P : Program) (w : World) (K : PySem.W.Frag) (mg : Str → Option Value) (base : Heap) (CX : CXT) (k : Nat) (f : Addr) (fd : FuncData) (ps : List Str) (sp : Sp) : Prop where
  len : ∀ vs H Q E, sp vs H Q E → vs.length = ps.length
  run : ∀ (A : Around) (outer : List Env) (s : Shared) (H : Hp) (args : Args) (us : List Value) (vs : List V) (Q : VK) (E : XK), A.guards = some [] → Room k A → Env0 P w K mg base A outer s H → BindsTo s fd args (ps.zip us) → Vals vs us → sp vs H Q E →
    codeAny (model P w) A (.call (.ref f) args) (CR CX outer P w H s Q E) s
theorem FnOkG.mono {P : Program} {w : World} {K : PySem.W.Frag} {mg : Str → Option Value} {base : Heap} {CX : CXT} {j k : Nat} {f : Addr} {fd : FuncData} {ps : List Str} {sp : Sp} (F : FnOkG P w K mg base CX j f fd ps sp) (h : j ≤ k) :
    FnOkG P w K mg base CX k f fd ps sp := ⟨F.len, fun A outer s H args us vs Q E hg hr => F.run A outer s H args us vs Q E hg (hr.mono h)⟩
theorem deeper_guards (A : Around) (env : Env) : (A.deeper env).guards = A.guards := rfl
section
open PySem.W
variable {P : Program} {w : World} {K : PySem.W.Frag} {mg : Str → Option Value} {base : Heap}
theorem Fun.okG {x qual : Str} {st : Stmt} {f : Addr} {fd : FuncData} {N ps : List Str} {k : Nat} {sp : Sp} (F : Fun K x qual st f fd) (S : FnScope N ps (defScope st)) (len : ∀ vs H Q E, sp vs H Q E → vs.length = ps.length)
    (hbody : ∀ (cdv : Value) (A : Around) (outer : List Env) (s : Shared) (H : Hp) (vs : List V) (Q : VK) (E : XK), (A.deeper (envOfC qual (defScope st) s.heap.objs.size f cdv)).guards = some [] → Room k (A.deeper (envOfC qual (defScope st) s.heap.objs.size f cdv)) → sp vs H Q E →
      ∃ t, PSs (cxOf CX0 P w K mg base N qual (defScope st) f cdv A outer s H E).nox (defBody st) t ∧ t { nx := fun _ H' => Q .non H', rt := Q } (start N vs) H) : FnOkG P w K mg base CX0 (k + 1) f fd ps sp := by
  obtain ⟨oc, od, kV, doc, pm, an, cdv, ct, osl, rfl, lk, hcd⟩ := F.ex
  refine ⟨len, fun A outer s H args us vs Q E hg hr e0 hb r hsp => ?_⟩
  have KX : K.In s.heap := e0.mod.kin.keeps fun b o e => (e0.bs b o e).1
  have lim : s.heap.NoLimit := e0.mod.nolimit.keeps fun b o e => (e0.bs b o e).1
  have hkind : ∀ y ∈ ps.zip us, (defScope st).names.lookup y.1 = some .local ∨ ((defScope st).names.lookup y.1 = some .cell ∧ ((cellsFrom (s.heap.objs.size + 1) (defScope st).names []).lookup y.1).isSome = true) := fun ⟨n, v⟩ hy =>
    (S.par n (List.of_mem_zip hy).1).imp id fun q => ⟨q, cellsFrom_some _ _ _ (.inl q)⟩
  refine codeAny_call_function hr.depth (KX _ _ lk) rfl S.co S.gen rfl (codeRec_of KX hcd) (hb _ _ _ _ ?_)
  refine wpAny_newFunctionEnv_cells S.kind hkind fun env he s1 x => ?_
  subst he
  refine ⟨lim.keeps x.toInCall.keep, codeAny_func ?_⟩
  obtain ⟨t, ht', hq⟩ := hbody cdv A outer s H vs Q E hg (hr.deeper _) hsp
  have ht := ht'.nox
  refine wpAny_mono (ht.run [] s1 (start N vs) H _ (inv_start S hr.hd e0 (len _ _ _ _ hsp) r x) hq) (fun fl s' hs => ?_) fun e s' hs => hs
  match fl, hs with
  | .ret u, ⟨v, σ', H', J, rv, q⟩ => exact ⟨v, H', J.os, J.bare, J.base, J.hok, rv, q⟩
  | .next, ⟨σ', H', J, q⟩ => exact ⟨.non, H', J.os, J.bare, J.base, J.hok, rfl, q⟩
  | .brk, ⟨_, _, _, q⟩ => exact False.elim q
  | .cont, ⟨_, _, _, q⟩ => exact False.elim q
end
section
variable {X : Cx} {CX : CXT} {k : Nat} {f : Addr} {fd : FuncData} {ps : List Str} {sp : Sp} {E : XK} {x : Str} {e : Expr} {es : List Expr} {t : TA} {p pos : Pos}
theorem pe_callG (hgd : X.A.guards = some []) (F : FnOkG X.prog X.w X.K X.mg X.base CX k f fd ps sp) (hr : Room k X.A) (hg : Gl X x) (hm : X.mg x = some (.ref f)) (hk : PySem.W.keepIn X.K (.ref f) = true) (hb : Binds X.K fd ps []) (hx : Passes CX X E)
    (ha : PA X (e :: es) t) (hdb : (x == ("__debug__" : Str)) = false := by decide) (he : starEach (e :: es) X.env = (false, eval e X.env) :: starEach es X.env := by rfl) (hpl : (backTo pos (starEach es X.env)).any (·.1) = false := by rfl) :
    PE X (.Call (.Name x p) (e :: es) [] pos) (tCall sp [] E t) := by
  refine ⟨fun pins s σ H Q I h => ?_⟩
  refine wpAny_Call_Name_kw (ld_glob I hg hm ?_ hdb)
  refine PySem.W.callWith_K (h₀ := X.base) I.ok.mod.kin hk (thn (ha.run pos pins s σ H _ I h) fun us s1 ⟨vs, H1, I1, r, q⟩ => ⟨I1.kIn, ?_⟩) he hpl
  have q : sp vs H1 Q E := by simpa using q
  have hl : us.length = ps.length := by rw [← Paired.length r]; exact F.len _ _ _ _ q
  have hb2 := hb s1 us I1.kIn (by rw [List.append_nil]; exact hl)
  rw [List.append_nil] at hb2
  refine wpAny_call (codeAny_mono (F.run X.A X.stack s1 H1 ⟨us, []⟩ us vs Q E hgd hr I1.env0 hb2 r q) fun r s' hq => ?_)
  match r, hq with
  | .error e, hq => exact hx pins σ H1 s1 e s' I1 hq
  | .ok (.ret u), hq => exact I1.after hq
  | .ok .next, hq => exact False.elim hq
  | .ok .brk, hq => exact False.elim hq
  | .ok .cont, hq => exact False.elim hq
end
end

end PT
namespace PT
open PySem L2
open PySem.Spec PyProof.Rows
/-- isinstance(e, c), e the exception that the suite holds, with a dict -/
def rIsD (K : PySem.W.Frag) (D a dd : Addr) : List V → Hp → VK → Prop := fun xs H Q => ∃ (c : V) (cv : Value) (b : Bool) (fs : List (Str × V)), xs = [.ref a, c] ∧ (∀ u, RelV c u → u = cv) ∧ PySem.W.kitOne K (.ref D) cv = some b ∧ H dd = some (.xd fs) ∧ Q (.bl b) H
theorem call_isD {X : Cx} {a D dd : Addr} {oe : Obj} {pn : List (Addr × Obj)} (C : ExcC X.K D) (hz : Zc (.ref D) (some dd) oe) (hf : ∃ vs, oe.data = .fields vs) : CallR (X.suite a ((a, oe) :: pn)) (.builtin "isinstance") (rIsD X.K D a dd) := by
  intro pins s σ H xs us Q I r h
  obtain ⟨c, cv, b, fs, rfl, hcv, e, hdd, q⟩ := h
  obtain ⟨u1, u2, rfl, rx, rt⟩ := vals2 r
  cases rx
  have ec := hcv _ rt
  subst ec
  obtain ⟨hget, _⟩ := I.pin (a, oe) (List.mem_append.mpr (.inl List.mem_cons_self))
  obtain ⟨vs, hv⟩ := hf
  have hx : ObjOk X.prog X.w H s.heap dd (.xd fs) := I.hok dd _ hdd
  obtain ⟨mA, hns, _⟩ := hx
  obtain ⟨od, es, ep, hod, _, _⟩ := hns
  have hcl : (PySem.W.clsIn X.K D).isSome = true := by
    obtain ⟨cd, hc, _⟩ := PySem.W.any_some C.hd
    rw [hc]
    rfl
  have J : PySem.W.InstAt s.heap a oe D (some od) := by
    obtain ⟨oc, oda, odd, osl⟩ := oe
    obtain ⟨h1, h2⟩ := hz
    dsimp only at h1 h2 hv
    subst h1 h2 hv
    exact ⟨hget, rfl, rfl, hod⟩
  exact PySem.W.kia_one (PySem.W.kitx_exc (x := a) (ox := oe) (od := some od) hcl C.hg C.hk C.hs C.ha C.hn C.ht C.hm) I.kIn J e (fun z => nomatch z) fun tk => ⟨.bl b, H, I.kept (t' := tk) fun _ _ z => z, rfl, q⟩

end PT
namespace PT
open PySem L2
/-! ### data that repr shows: ints of 20 digits, short texts, lists, tuples -/
mutual
def sml : PyData → Bool
  | .none | .bool _ => true
  | .int i => decide (i.natAbs < 10 ^ 20)
  | .str x => x.cps.toList.all fun c => decide (c < 16 ^ 8)
  | .list xs | .tuple xs => smlAll xs
  | .dict _ => false
def smlAll : List PyData → Bool
  | [] => true
  | x :: xs => sml x && smlAll xs
end
theorem log2_small {n : Nat} (h : n < 10 ^ 20) : n.log2 < 70 := by
  by_cases h0 : n = 0
  · subst h0
    decide
  · rw [Nat.log2_lt h0]
    exact Nat.lt_of_lt_of_le h (by decide)
mutual
theorem sml_showable : ∀ d : PyData, sml d = true → d.showable = true
  | .none, _ => by simp only [PyData.showable]
  | .bool _, _ => by simp only [PyData.showable]
  | .int i, h => by
    simp only [sml, decide_eq_true_eq] at h
    simp only [PyData.showable, decide_eq_true_eq]
    exact Nat.lt_trans (log2_small h) (by decide)
  | .str _, _ => by simp only [PyData.showable]
  | .list xs, h => by
    simp only [sml] at h
    simp only [PyData.showable]
    exact smlAll_showable xs h
  | .tuple xs, h => by
    simp only [sml] at h
    simp only [PyData.showable]
    exact smlAll_showable xs h
  | .dict _, h => by simp [sml] at h
theorem smlAll_showable : ∀ ds : List PyData, smlAll ds = true → PyData.showableAll ds = true
  | [], _ => by simp only [PyData.showableAll]
  | x :: xs, h => by
    simp only [smlAll, Bool.and_eq_true] at h
    simp only [PyData.showableAll, Bool.and_eq_true]
    exact ⟨sml_showable x h.1, smlAll_showable xs h.2⟩
end
mutual
theorem sml_noDict : ∀ d : PyData, sml d = true → d.hasDict = false
  | .none, _ => by simp only [PyData.hasDict]
  | .bool _, _ => by simp only [PyData.hasDict]
  | .int i, h => by simp only [PyData.hasDict]
  | .str _, _ => by simp only [PyData.hasDict]
  | .list xs, h => by
    simp only [sml] at h
    simp only [PyData.hasDict]
    exact smlAll_noDict xs h
  | .tuple xs, h => by
    simp only [sml] at h
    simp only [PyData.hasDict]
    exact smlAll_noDict xs h
  | .dict _, h => by simp [sml] at h
theorem smlAll_noDict : ∀ ds : List PyData, smlAll ds = true → PyData.hasDictAll ds = false
  | [], _ => by simp only [PyData.hasDictAll]
  | x :: xs, h => by
    simp only [smlAll, Bool.and_eq_true] at h
    simp only [PyData.hasDictAll, Bool.or_eq_false_iff]
    exact ⟨sml_noDict x h.1, smlAll_noDict xs h.2⟩
end
mutual
theorem sml_leaves : ∀ d : PyData, sml d = true → d.leavesShort 21 = true
  | .none, _ => by simp only [PyData.leavesShort]
  | .bool _, _ => by simp only [PyData.leavesShort]
  | .int i, h => by
    simp only [sml, decide_eq_true_eq] at h
    simp only [PyData.leavesShort, decide_eq_true_eq]
    show (Str.ofString (toString i)).length ≤ 21
    rw [ofString_length]
    exact int_text_length_le10 (k := 20) (by decide) h
  | .str _, h => by
    simp only [sml] at h
    simp only [PyData.leavesShort]
    exact h
  | .list xs, h => by
    simp only [sml] at h
    simp only [PyData.leavesShort]
    exact smlAll_leaves xs h
  | .tuple xs, h => by
    simp only [sml] at h
    simp only [PyData.leavesShort]
    exact smlAll_leaves xs h
  | .dict _, h => by simp [sml] at h
theorem smlAll_leaves : ∀ ds : List PyData, smlAll ds = true → PyData.leavesShortAll 21 ds = true
  | [], _ => by simp only [PyData.leavesShortAll]
  | x :: xs, h => by
    simp only [smlAll, Bool.and_eq_true] at h
    simp only [PyData.leavesShortAll, Bool.and_eq_true]
    exact ⟨sml_leaves x h.1, smlAll_leaves xs h.2⟩
end
theorem sml_fits {d : PyData} (h : sml d = true) (hw : d.bulk ≤ 100000) : d.shown.length ≤ sizeLine := by
  have h1 := PyData.shown_le_bulk 21 (by decide) d (sml_leaves d h)
  rw [sizeLine_eq]
  omega
theorem r_reprS {K : PySem.W.Frag} {H : Hp} {Q : VK} {a : Addr} {d : PyData} (hd : Dp K H (.ref a) d) (hs : sml d = true) (hp : d.depth ≤ 40) (hw : d.bulk ≤ 100000) (k : Q (.str d.shown) H) : rRepr K [.ref a] H Q := r_repr hd (sml_showable d hs) (sml_noDict d hs) hp (sml_fits hs hw) k

end PT
namespace PT
open PySem L2
/-! ### the end of a law whose promise asks that no repr runs above -/
section
open PySem.Spec PyProof.Rows
def scrH (K : PySem.W.Frag) (a : Addr) (o : Obj) (xs : List V) : Hp := fun b => if b = a ∧ K.lookup a = none then some (.frz o (.lst xs)) else none
theorem scr_cases {K : PySem.W.Frag} {a : Addr} {o : Obj} {xs : List V} (b : Addr) : scrH K a o xs b = none ∨ (b = a ∧ K.lookup a = none ∧ scrH K a o xs b = some (.frz o (.lst xs))) := by
  by_cases h : b = a ∧ K.lookup a = none
  · exact .inr ⟨h.1, h.2, if_pos h⟩
  · exact .inl (if_neg h)
theorem vals_ofI : ∀ {us : List Value} {ks : List Int}, IntsAre us ks → Vals (ks.map V.int) us
  | _, _, .nil => .nil
  | _, _, .cons n t h => .cons ⟨t, rfl⟩ (vals_ofI h)
theorem law_callG {P : Program} {w : World} {K : PySem.W.Frag} {mg mb : Str → Option Value} {k : Nat} {fa a : Addr} {fd : FuncData} {x : Str} {sp : Sp} {s1 : Shared} {us : List Value} {ks : List Int}
    (KX : K.In s1.heap) (nm : s1.heap.Ns mainGlobals mg) (nb : s1.heap.Ns builtinsNs mb) (hbb : ∀ x : Str, x ≠ "__name__" → mb x = bootBuiltins x) (lim : s1.heap.NoLimit) (g0 : s1.gens = #[])
    (sa : s1.heap.get? a = some { cls := .type "list", data := .seq us.toArray }) (iu : IntsAre us ks) (hl : ks.length ≤ sizeLine) (room : Room k callerA)
    (F : ∀ base : Heap, K.In base → base.Ns mainGlobals mg → FnOkG P w K mg base CX0 k fa fd [x] sp) (bnd : Binds K fd [x] [])
    (hsp : ∀ H : Hp, SqL K H a (ks.map V.int) → sp [.ref a] H (fun v _ => v = .bl true) fun _ _ _ => False) :
    codeAny (model P w) callerA (.call (.ref fa) ⟨[.ref a], []⟩) (fun r s' => r = .ok (.ret (.bool true)) ∧ OldK s1.heap s'.heap ∧ s'.os = s1.os ∧ AllBare s'.gens) s1 := by
  have vu := vals_ofI iu
  have lu := iu.length
  generalize eo : ({ cls := .type "list", data := .seq us.toArray } : Obj) = ob at sa
  let H := scrH K a ob (ks.map V.int)
  have hH : ∀ b, H b = none ∨ (b = a ∧ K.lookup a = none ∧ H b = some (.frz ob (.lst (ks.map V.int)))) := fun b => scr_cases b
  have noK : ∀ {b : Addr} {o : Obj}, K.lookup b = some o → H b = none := fun {b o} e => by
    rcases hH b with q | ⟨q1, q2, -⟩
    · exact q
    · rw [q1, q2] at e
      cases e
  have noD : ∀ {b : Addr} {o : Obj} {es : Array DictEntry} {ep : Nat}, s1.heap.get? b = some o → o.data = .dict es ep → H b = none := fun {b o es ep} e d => by
    rcases hH b with q | ⟨q1, -, -⟩
    · exact q
    · rw [q1, sa] at e
      cases e
      rw [← eo] at d
      cases d
  have nsH : ∀ {b : Addr} {m : Str → Option Value}, s1.heap.Ns b m → (hidT s1.heap H).Ns b m := fun ⟨o, es, ep, e, d, r⟩ => ⟨o, es, ep, hidT_get e (noD e d), d, r⟩
  have KH : K.In (hidT s1.heap H) := fun b o e => hidT_get (KX b o e) (noK e)
  have sq : SqL K H a (ks.map V.int) := by
    cases hk : K.lookup a with
    | none => exact .inl (.inr ⟨ob, if_pos ⟨rfl, hk⟩⟩)
    | some o =>
      have e := KX a o hk
      rw [sa] at e
      cases e
      exact .inr ⟨_, us.toArray, _, hk, by rw [← eo], by rw [← eo], by rw [← eo], by rw [List.size_toArray, lu]; exact hl, by simpa using vu⟩
  have hok : HOk P w H s1.heap := fun b u e => by
    rcases hH b with q | ⟨rfl, -, q⟩
    · rw [q] at e
      cases e
    · rw [q] at e
      cases e
      exact ⟨sa, by rw [List.length_map]; exact hl, us, _, vu, by rw [eo]; exact sa⟩
  have hM : Mod K mg (hidT s1.heap H) := ⟨KH, nsH nm, ⟨mb, nsH nb, hbb⟩, by
    obtain ⟨mc, q1, q2⟩ := lim
    exact ⟨mc, nsH q1, q2⟩⟩
  have env : Env0 P w K mg (hidT s1.heap H) callerA [] s1 H := ⟨rfl, hM, fun _ _ => of_hidT, Nat.le_of_eq (hidT_size _ _), trivial, fun _ h => (by cases h), hok, .of_eq g0⟩
  have run := (F _ KH (nsH nm)).run callerA [] s1 H ⟨[.ref a], []⟩ [.ref a] [.ref a] _ _ rfl room env (bnd s1 [.ref a] KX rfl) (.cons rfl .nil) (hsp H sq)
  refine codeAny_mono run fun r s' h => ?_
  match r, h with
  | .error e, h => exact (show False from h).elim
  | .ok .next, h => exact False.elim h
  | .ok .brk, h => exact False.elim h
  | .ok .cont, h => exact False.elim h
  | .ok (.ret u), ⟨v, H', os, bare, un, hok', rv, q⟩ =>
    have q : v = .bl true := q
    subst q
    obtain rfl : u = Value.bool true := rv
    refine ⟨rfl, .of_keep fun b o e => ?_, os, bare⟩
    rcases hH b with q | ⟨rfl, -, q⟩
    · exact un.keep b o e q (by intro z; cases z) (by intro z; cases z)
    · obtain ⟨e1, -⟩ := hok' b _ (un.frzs b _ _ q)
      rw [sa] at e
      cases e
      exact e1
theorem walk_ofG {l : PySem.W.OpenLaw} {n k : Nat} {q : Program} {loose : List Str} {XP : (Str → Option Value) → Heap → Prop} {YP : World → Heap → Prop} {d : DefRec} {K : Params → PySem.W.Frag} {sp : World → Sp} {x : Str}
    (hn : l.most = some n) (hn2 : n ≤ sizeLine) (hdf : d.params.defaults = []) (room : Room k callerA) (hY : ∀ (w : World) (h : Heap), YP w h → (K w.params).In h)
    (F : ∀ (w : World) (mg : Str → Option Value) (fa : Addr) (h : Heap), (K w.params).In h → h.Ns mainGlobals mg → mg d.name = some (.ref fa) →
      ∃ fd : FuncData, Binds (K w.params) fd [x] [] ∧ ∀ base : Heap, (K w.params).In base → base.Ns mainGlobals mg → FnOkG l.prog w (K w.params) mg base CX0 k fa fd [x] (sp w))
    (hsp : ∀ (w : World) (H : Hp) (a : Addr) (ns : List Int), ns.length ≤ n → SqL (K w.params) H a (ns.map V.int) → sp w [.ref a] H (fun v _ => v = .bl true) fun _ _ _ => False) :
    PySem.W.WalkO q loose XP YP l.row.toRowW d [] (fun f vs => PySem.call f vs) := by
  refine Att.attach_call hn hdf fun w s0 s1 mg mb fa o pm cd doc a us ks G Y ho hd hcd hmg sa iu hlen g0 => ?_
  obtain ⟨fd, bnd, hF⟩ := F w mg fa _ (hY w _ Y) G.T.g hmg
  exact law_callG (hY w _ Y) G.T.g G.T.b G.T.builtins G.T.nolimit g0 sa iu (Nat.le_trans hlen hn2) room hF bnd fun H q => hsp w H a ks hlen q
end

end PT
namespace PT
open PySem L2
/-! ### forests as binary trees: a label, the forest of the kids, the rest -/
inductive Fo where
  | nil
  | cons (l : Int) (k r : Fo)
def rowF : Fo → List Int
  | .nil => []
  | .cons l k r => l :: (rowF k ++ 0 :: rowF r)
def szF : Fo → Nat
  | .nil => 0
  | .cons _ k r => 1 + szF k + szF r
def rlF : Fo → List Int
  | .nil => []
  | .cons l _ r => l :: rlF r
def okF : Fo → Prop
  | .nil => True
  | .cons l k r => (1 ≤ l ∧ l ≤ 9) ∧ okF k ∧ okF r
def tabF (p : Int) (s : Nat) : Fo → List (Int × Int)
  | .nil => []
  | .cons l k r => (p, l) :: (tabF (s : Nat) (s + 1) k ++ tabF p (s + 1 + szF k) r)
theorem rowF_len : ∀ f : Fo, (rowF f).length = 2 * szF f
  | .nil => rfl
  | .cons l k r => by
    simp only [rowF, szF, List.length_cons, List.length_append, rowF_len k, rowF_len r]
    omega
theorem tabF_len : ∀ (f : Fo) (p : Int) (s : Nat), (tabF p s f).length = szF f
  | .nil, _, _ => rfl
  | .cons l k r, p, s => by
    simp only [tabF, szF, List.length_cons, List.length_append, tabF_len k, tabF_len r]
    omega
theorem rowF_sign : ∀ {f : Fo}, okF f → ∀ n ∈ rowF f, 0 ≤ n ∧ n ≤ 9
  | .nil, _, n, h => by simp [rowF] at h
  | .cons l k r, ⟨h1, h2, h3⟩, n, h => by
    simp only [rowF, List.mem_cons, List.mem_append] at h
    rcases h with e | e | e | e
    · omega
    · exact rowF_sign h2 n e
    · omega
    · exact rowF_sign h3 n e
def zs (n : Nat) : List Int := List.replicate n 0
theorem zs_len (n : Nat) : (zs n).length = n := List.length_replicate
theorem zs_add (a b : Nat) : zs a ++ zs b = zs (a + b) := by
  unfold zs
  rw [List.replicate_append_replicate]
theorem zs_snoc (n : Nat) : zs (n + 1) = zs n ++ [0] := by
  rw [← zs_add]
  rfl
theorem zs_snoc_front (n : Nat) : zs (n + 1) = 0 :: zs n := rfl
/-- an end of zeros: the row of zeros behind a row ends it -/
theorem end_zero {a b : List Int} {d : Nat} (h : a ++ [0] = b ++ zs (d + 1)) : a = b ++ zs d := by
  rw [zs_snoc, ← List.append_assoc] at h
  exact List.append_inj_left' h rfl
theorem nz_tail {a b : List Int} {x : Int} {d : Nat} (hx : x ≠ 0) (h : a ++ x :: b = zs d) : False := by
  have : x ∈ zs d := by rw [← h]; simp
  exact hx (List.eq_of_mem_replicate this)
/-- where a row ends in zeros and has an opening behind its first part, the zeros lie behind that opening -/
theorem split_at {a b c : List Int} {x : Int} {d : Nat} (hx : x ≠ 0) (h : a ++ x :: b = c ++ zs d) : ∃ c', c = a ++ x :: c' ∧ b = c' ++ zs d := by
  have hl : (a ++ x :: b).length = (c ++ zs d).length := by rw [h]
  rw [List.length_append, List.length_cons, List.length_append, zs_len] at hl
  rcases List.append_eq_append_iff.mp h with ⟨m, h1, h2⟩ | ⟨m, h1, h2⟩
  · cases m with
    | nil =>
      have h2' : x :: b = zs d := by simpa using h2
      exact (nz_tail (a := []) hx h2').elim
    | cons y m =>
      have h2' : x :: b = y :: (m ++ zs d) := by simpa using h2
      injection h2' with e1 e2
      exact ⟨m, by rw [h1, e1], e2⟩
  · exact (nz_tail (a := m) hx h2.symm).elim
/-- a leaf put in ahead of the last zeros but u -/
theorem ins {x : Int} (hx : 1 ≤ x ∧ x ≤ 9) : ∀ (f : Fo), okF f → ∀ (r : List Int) (d u : Nat), u ≤ d → rowF f = r ++ zs d → ∃ f', okF f' ∧ szF f' = szF f + 1 ∧ rowF f' = r ++ zs u ++ [x, 0] ++ zs (d - u) ∧
    ∀ l k, f = .cons l k .nil → u < d → ∃ k', f' = .cons l k' .nil
  | .nil, _, r, d, u, hu, h => by
    have hl : (rowF Fo.nil).length = (r ++ zs d).length := by rw [h]
    rw [List.length_append, zs_len] at hl
    simp only [rowF, List.length_nil] at hl
    have e1 : r = [] := List.length_eq_zero_iff.mp (by omega)
    have e2 : d = 0 := by omega
    subst e1
    subst e2
    have e3 : u = 0 := by omega
    subst e3
    exact ⟨.cons x .nil .nil, ⟨hx, trivial, trivial⟩, rfl, rfl, fun l k e => by cases e⟩
  | .cons l k (.cons l2 k2 r2), ⟨h1, h2, h3⟩, r, d, u, hu, h => by
    have h' : (l :: (rowF k ++ [0])) ++ l2 :: (rowF k2 ++ 0 :: rowF r2) = r ++ zs d := by
      rw [← h]
      simp [rowF]
    have hl2 : l2 ≠ 0 := by have := h3.1; omega
    obtain ⟨c', e1, e2⟩ := split_at hl2 h'
    have e3 : rowF (.cons l2 k2 r2) = (l2 :: c') ++ zs d := by
      simp only [rowF, e2, List.cons_append]
    obtain ⟨f', g1, g2, g3, g4⟩ := ins hx (.cons l2 k2 r2) h3 _ d u hu e3
    refine ⟨.cons l k f', ⟨h1, h2, g1⟩, by simp only [szF] at g2 ⊢; omega, ?_, fun l' k' e => by cases e⟩
    rw [e1]
    simp [rowF, g3]
  | .cons l k .nil, ⟨h1, h2, h3⟩, r, d, u, hu, h => by
    by_cases hud : u = d
    · subst hud
      refine ⟨.cons l k (.cons x .nil .nil), ⟨h1, h2, hx, trivial, trivial⟩, by simp only [szF], ?_, fun l' k' _ hlt => absurd hlt (Nat.lt_irrefl _)⟩
      have e : rowF (.cons l k (.cons x .nil .nil)) = rowF (.cons l k .nil) ++ [x, 0] := by simp [rowF]
      rw [e, h, Nat.sub_self]
      simp [zs]
    · obtain ⟨e, rfl⟩ : ∃ e, d = e + 1 := ⟨d - 1, by omega⟩
      have h' : (l :: rowF k) ++ [0] = r ++ zs (e + 1) := by
        rw [← h]
        simp [rowF]
      have h'' := end_zero h'
      have hl1 : l ≠ 0 := by omega
      obtain ⟨c', e1, e2⟩ := split_at (a := []) hl1 h''
      obtain ⟨k', g1, g2, g3, _⟩ := ins hx k h2 c' e u (by omega) e2
      refine ⟨.cons l k' .nil, ⟨h1, g1, trivial⟩, by simp only [szF]; omega, ?_, fun l' k2 e3 _ => by cases e3; exact ⟨k', rfl⟩⟩
      have e4 : e + 1 - u = e - u + 1 := by omega
      rw [e4, zs_snoc, e1]
      simp [rowF, g3]

/-! ### runs that may stop -/
theorem runM {σ α : Type} (f : σ → α → Option σ) : ∀ (l : List α) (s s' : σ), l.foldlM f s = some s' → ∀ k x, l[k]? = some x → ∃ s1 s2, (l.take k).foldlM f s = some s1 ∧ f s1 x = some s2 ∧ (l.take (k + 1)).foldlM f s = some s2
  | [], s, s', _, k, x, hx => by simp at hx
  | a :: l, s, s', h, k, x, hx => by
    rw [List.foldlM_cons] at h
    cases e : f s a with
    | none =>
      rw [e] at h
      cases h
    | some s0 =>
      rw [e] at h
      cases k with
      | zero =>
        have hx' : a = x := by simpa using hx
        subst hx'
        exact ⟨s, s0, rfl, e, by rw [List.take_succ_cons, List.foldlM_cons, e]; rfl⟩
      | succ k =>
        obtain ⟨s1, s2, h1, h2, h3⟩ := runM f l s0 s' h k x (by simpa using hx)
        refine ⟨s1, s2, ?_, h2, ?_⟩
        · rw [List.take_succ_cons, List.foldlM_cons, e]
          exact h1
        · rw [List.take_succ_cons, List.foldlM_cons, e]
          exact h3
/-- the table of a row, sign by sign: the entries, the nodes that are open (the last one first) -/
def nstep : List (Int × Int) × List Int → Int → Option (List (Int × Int) × List Int)
  | (_, []), _ => none
  | (ps, y :: r), x => if 0 < x then some (ps ++ [(y, x)], (ps.length : Int) :: y :: r) else if 0 ≤ y ∧ y < ps.length then some (ps, r) else none
theorem nstep_eq (ps : List (Int × Int)) (y : Int) (r : List Int) (x : Int) : nstep (ps, y :: r) x = if 0 < x then some (ps ++ [(y, x)], (ps.length : Int) :: y :: r) else if 0 ≤ y ∧ y < ps.length then some (ps, r) else none := rfl
theorem nrun_row : ∀ (f : Fo), okF f → ∀ (ps : List (Int × Int)) (p : Int) (pl : List Int), (rowF f).foldlM nstep (ps, p :: pl) = some (ps ++ tabF p ps.length f, p :: pl)
  | .nil, _, ps, p, pl => by simp [rowF, tabF]
  | .cons l k r, ⟨h1, h2, h3⟩, ps, p, pl => by
    have e1 : nstep (ps, p :: pl) l = some (ps ++ [(p, l)], (ps.length : Int) :: p :: pl) := by
      rw [nstep_eq, if_pos (by omega)]
    have hlen : (ps ++ [(p, l)]).length = ps.length + 1 := by simp
    have e2 : nstep (ps ++ [(p, l)] ++ tabF (ps.length : Nat) (ps.length + 1) k, (ps.length : Int) :: p :: pl) 0 = some (ps ++ [(p, l)] ++ tabF (ps.length : Nat) (ps.length + 1) k, p :: pl) := by
      rw [nstep_eq, if_neg (by decide)]
      exact if_pos ⟨by omega, by simp; omega⟩
    have e3 : (ps ++ [(p, l)] ++ tabF (ps.length : Nat) (ps.length + 1) k).length = ps.length + 1 + szF k := by
      rw [List.length_append, tabF_len, hlen]
    simp only [rowF, List.foldlM_cons, List.foldlM_append, e1, Option.bind_eq_bind, Option.bind_some]
    rw [nrun_row k h2]
    simp only [Option.bind_some, hlen]
    rw [e2]
    simp only [Option.bind_some]
    rw [nrun_row r h3, e3]
    simp only [tabF, List.append_assoc, List.singleton_append, List.cons_append, List.nil_append]

end PT
namespace PT
open PySem L2
/-! ### the law's reckoning over a table of nodes -/
abbrev Rule := Option (Option (List Int) × List Int)
def upA (ps : List (Int × Int)) (k : Nat) : Int := (ps[k]?.getD (0, 0)).1
def labA (ps : List (Int × Int)) (k : Nat) : Int := (ps[k]?.getD (0, 0)).2
theorem upA_at {ps : List (Int × Int)} {k : Nat} {p : Int × Int} (h : ps[k]? = some p) : upA ps k = p.1 := by unfold upA; rw [h]; rfl
theorem labA_at {ps : List (Int × Int)} {k : Nat} {p : Int × Int} (h : ps[k]? = some p) : labA ps k = p.2 := by unfold labA; rw [h]; rfl
def kidN (ps : List (Int × Int)) (v : Int) : List Nat := (List.range ps.length).filter fun k => decide (upA ps k = v)
def iN (l : List Nat) : List Int := l.map fun k : Nat => (k : Int)
def kLab (ps : List (Int × Int)) (v : Int) : List Int := (kidN ps v).map (labA ps)
def lets (r : Rule) (ks : List Int) : Bool := match r with
  | none => false
  | some (m, ls) => (match m with | none => true | some ms => decide ((ks.length : Int) ∈ ms)) && ks.all fun k => decide (k ∈ ls)
def ruleA (rs : List Rule) (a : Int) : Rule := (rs[a.toNat]?).getD none
def brk (roots : List Int) (rs : List Rule) (ps : List (Int × Int)) (v : Nat) : Bool := (decide (v = 0) && !decide (labA ps v ∈ roots)) || !lets (ruleA rs (labA ps v)) (kLab ps v)
def brkL (roots : List Int) (rs : List Rule) (ps : List (Int × Int)) : List Int := iN ((List.range ps.length).filter (brk roots rs ps))
theorem iN_snoc (l : List Nat) (k : Nat) : iN (l ++ [k]) = iN l ++ [(k : Int)] := by unfold iN; rw [List.map_append]; rfl
theorem range_filter_snoc (p : Nat → Bool) (i : Nat) : (List.range (i + 1)).filter p = (List.range i).filter p ++ if p i = true then [i] else [] := by
  rw [List.range_succ, List.filter_append]
  congr 1
  cases h : p i <;> simp [List.filter, h]
theorem iN_len (l : List Nat) : (iN l).length = l.length := by unfold iN; rw [List.length_map]
theorem kLab_len (ps : List (Int × Int)) (v : Int) : (kLab ps v).length = (kidN ps v).length := by unfold kLab; rw [List.length_map]
theorem kidN_lt {ps : List (Int × Int)} {v : Int} {k : Nat} (h : k ∈ kidN ps v) : k < ps.length := List.mem_range.mp (List.mem_filter.mp h).1
theorem kidN_le (ps : List (Int × Int)) (v : Int) : (kidN ps v).length ≤ ps.length := by
  have := List.length_filter_le (fun k => decide (upA ps k = v)) (List.range ps.length)
  rw [List.length_range] at this
  exact this
theorem filter_nil_all {α : Type} (p : α → Bool) : ∀ l : List α, (l.filter fun x => !p x) = [] ↔ l.all p = true
  | [] => by simp
  | a :: l => by
    rw [List.filter_cons]
    cases h : p a with
    | true => simp [h, filter_nil_all p l]
    | false => simp [h]
def dM : Option (List Int) → PyData
  | none => .none
  | some ms => dI ms
def dR : Rule → PyData
  | none => .none
  | some (m, ls) => .list [dM m, dI ls]
theorem inV_ints (x : Int) : ∀ ls : List Int, inV (.int x) (ls.map V.int) = decide (x ∈ ls)
  | [] => rfl
  | l :: r => by
    have ih := inV_ints x r
    unfold inV at ih ⊢
    rw [List.map_cons, List.any_cons, ih]
    show (l == x || decide (x ∈ r)) = decide (x ∈ l :: r)
    by_cases h : l = x
    · subst h
      simp
    · have h2 : ¬ x = l := fun e => h e.symm
      simp [h, h2, List.mem_cons]
theorem flat_ints : ∀ ls : List Int, (ls.map V.int).all flatV = true
  | [] => rfl
  | _ :: r => flat_ints r

def ownV (r : Rule) (many kid : Int) : Int := match r with
  | none => 1
  | some (m, ls) => if kid ∈ ls then (match m with | none => 0 | some ms => if many ∈ ms then 0 else 1) else 1
/-- the rules as a dict: what stands under each label, ascending -/
abbrev Pr := Option (List Int) × List Int
def dTM : Option (List Int) → PyData
  | none => .none
  | some ms => dTI ms
def dTR (p : Pr) : PyData := .tuple [dTM p.1, dTI p.2]
def dTRo : Rule → PyData
  | none => .none
  | some p => dTR p
def giveL (rs : List Rule) : Nat → List (Int × Pr)
  | 0 => []
  | n + 1 => giveL rs n ++ match ruleA rs ((n + 1 : Nat) : Int) with
    | none => []
    | some p => [(((n + 1 : Nat) : Int), p)]
inductive KvD (K : PySem.W.Frag) (G : Hp) : List (Key × V) → List (Int × Pr) → Prop
  | nil : KvD K G [] []
  | cons {a : Int} {v : V} {p : Pr} {kvs : List (Key × V)} {es : List (Int × Pr)} : Dp K G v (dTR p) → KvD K G kvs es → KvD K G ((Sum.inl a, v) :: kvs) ((a, p) :: es)
theorem KvD.up {K : PySem.W.Frag} {G G' : Hp} (s : Same G G') : ∀ {kvs : List (Key × V)} {es : List (Int × Pr)}, KvD K G kvs es → KvD K G' kvs es
  | _, _, .nil => .nil
  | _, _, .cons h t => .cons (dp_up s h) (KvD.up s t)
theorem KvD.snoc {K : PySem.W.Frag} {G : Hp} {a : Int} {v : V} {p : Pr} (h : Dp K G v (dTR p)) : ∀ {kvs : List (Key × V)} {es : List (Int × Pr)}, KvD K G kvs es → KvD K G (kvs ++ [(Sum.inl a, v)]) (es ++ [(a, p)])
  | _, _, .nil => .cons h .nil
  | _, _, .cons h1 t => .cons h1 (KvD.snoc h t)
theorem KvD.len {K : PySem.W.Frag} {G : Hp} : ∀ {kvs : List (Key × V)} {es : List (Int × Pr)}, KvD K G kvs es → kvs.length = es.length
  | _, _, .nil => rfl
  | _, _, .cons _ t => by rw [List.length_cons, List.length_cons, t.len]
theorem KvD.val {K : PySem.W.Frag} {G : Hp} (a : Int) : ∀ {kvs : List (Key × V)} {es : List (Int × Pr)}, KvD K G kvs es → match es.lookup a with | none => valV kvs (Sum.inl a : Key) = none | some p => ∃ v, valV kvs (Sum.inl a : Key) = some v ∧ Dp K G v (dTR p)
  | _, _, .nil => rfl
  | _, _, @KvD.cons _ _ b v p kvs es h t => by
    by_cases e : b = a
    · subst e
      simp only [List.lookup_cons, beq_self_eq_true]
      exact ⟨v, valV_pos rfl, h⟩
    · have e2 : (a == b) = false := by simpa using fun q => e q.symm
      simp only [List.lookup_cons, e2]
      have ih := KvD.val a t
      have en : valV ((Sum.inl b, v) :: kvs) (Sum.inl a : Key) = valV kvs (Sum.inl a) := valV_neg fun q => e (Sum.inl.inj q)
      rw [en]
      exact ih
theorem KvD.keys {K : PySem.W.Frag} {G : Hp} : ∀ {kvs : List (Key × V)} {es : List (Int × Pr)}, KvD K G kvs es → kvs.map (·.1) = es.map fun e => (Sum.inl e.1 : Key)
  | _, _, .nil => rfl
  | _, _, .cons _ t => by rw [List.map_cons, List.map_cons, t.keys]
theorem giveL_lt (rs : List Rule) : ∀ (n : Nat) (e : Int × Pr), e ∈ giveL rs n → 1 ≤ e.1 ∧ e.1 ≤ n ∧ ruleA rs e.1 = some e.2
  | 0, e, h => by simp [giveL] at h
  | n + 1, e, h => by
    unfold giveL at h
    rcases List.mem_append.mp h with h | h
    · obtain ⟨g1, g2, g3⟩ := giveL_lt rs n e h
      exact ⟨g1, Int.le_trans g2 (Int.ofNat_le.mpr (Nat.le_succ n)), g3⟩
    · cases hr : ruleA rs ((n + 1 : Nat) : Int) with
      | none =>
        rw [hr] at h
        cases h
      | some p =>
        rw [hr] at h
        obtain rfl := List.mem_singleton.mp h
        exact ⟨by show (1 : Int) ≤ ((n + 1 : Nat) : Int); omega, Int.le_refl _, hr⟩
theorem giveL_at (rs : List Rule) (a : Int) : ∀ n : Nat, (giveL rs n).lookup a = if 1 ≤ a ∧ a ≤ n then ruleA rs a else none
  | 0 => by
    rw [if_neg (by omega)]
    rfl
  | n + 1 => by
    unfold giveL
    rw [List.lookup_append, giveL_at rs a n]
    by_cases h1 : 1 ≤ a ∧ a ≤ n
    · rw [if_pos h1, if_pos (by omega)]
      cases hr : ruleA rs a with
      | some p => rfl
      | none =>
        have hne : (a == ((n + 1 : Nat) : Int)) = false := by
          have : ¬ a = ((n + 1 : Nat) : Int) := by omega
          simpa using this
        cases hr2 : ruleA rs ((n + 1 : Nat) : Int) with
        | none => rfl
        | some p =>
          show (List.lookup a [(((n + 1 : Nat) : Int), p)]) = none
          rw [List.lookup_cons, hne]
          rfl
    · rw [if_neg h1]
      by_cases h2 : a = ((n + 1 : Nat) : Int)
      · rw [if_pos (by omega), ← h2]
        cases hr : ruleA rs a with
        | none => rfl
        | some p => simp [List.lookup_cons]
      · rw [if_neg (by omega)]
        have hne : (a == ((n + 1 : Nat) : Int)) = false := by simpa using h2
        cases hr2 : ruleA rs ((n + 1 : Nat) : Int) with
        | none => rfl
        | some p =>
          show (List.lookup a [(((n + 1 : Nat) : Int), p)]) = none
          rw [List.lookup_cons, hne]
          rfl

end PT
namespace PT
open PySem L2
section
variable {K : PySem.W.Frag} {H : Hp} {Q : VK} {x v : V} {ps : List (Int × Int)}
theorem r_inI {a : Addr} {n : Int} {ls : List Int} (h : SqL K H a (ls.map V.int)) (k : Q (.bl (decide (n ∈ ls))) H) : rIn K false (.int n) (.ref a) H Q :=
  ⟨a, _, rfl, .inl h, rfl, flat_ints ls, by rw [if_neg Bool.false_ne_true, inV_ints]; exact k⟩
theorem r_niI {a : Addr} {n : Int} {ls : List Int} (h : SqL K H a (ls.map V.int)) (k : Q (.bl (!decide (n ∈ ls))) H) : rIn K true (.int n) (.ref a) H Q :=
  ⟨a, _, rfl, .inl h, rfl, flat_ints ls, by rw [if_pos rfl, inV_ints]; exact k⟩
theorem r_inT {a : Addr} {n : Int} {ls : List Int} (h : SqT K H a (ls.map V.int)) (k : Q (.bl (decide (n ∈ ls))) H) : rIn K false (.int n) (.ref a) H Q :=
  ⟨a, _, rfl, .inr h, rfl, flat_ints ls, by rw [if_neg Bool.false_ne_true, inV_ints]; exact k⟩
theorem r_niT {a : Addr} {n : Int} {ls : List Int} (h : SqT K H a (ls.map V.int)) (k : Q (.bl (!decide (n ∈ ls))) H) : rIn K true (.int n) (.ref a) H Q :=
  ⟨a, _, rfl, .inr h, rfl, flat_ints ls, by rw [if_pos rfl, inV_ints]; exact k⟩
end
local macro_rules | `(tactic| walk_at "sm") => `(tactic| first
  | assumption
  | exact Same.refl _
  | exact sm_up (by assumption)
  | (refine sm_up2 ?_ (by assumption); walk_at "sm")
  | (refine sm_mut ?_ (by assumption); walk_at "sm")
  | (refine Same.trans ?_ (by assumption); walk_at "sm"))
local macro_rules | `(tactic| walk_at "bt") => `(tactic| first
  | assumption
  | exact But.refl _
  | (with_reducible refine But.set ?_; walk_at "bt")
  | (refine But.up ?_ (by assumption); walk_at "bt")
  | (refine But.trans ?_ (by assumption); walk_at "bt"))
local macro_rules | `(tactic| walk_at "hg") => `(tactic| first
  | assumption
  | exact upd_same
  | (refine hget ?_ (by assumption); walk_at "sm")
  | (refine hbut ?_ (by assumption) (by assumption); walk_at "bt")
  | (refine Eq.trans (upd_ne (by first | assumption | exact Ne.symm (by assumption))) ?_; walk_at "hg"))
local macro_rules | `(tactic| walk_at "fr") => `(tactic| first
  | assumption
  | (refine Same.free ?_ (by assumption); walk_at "sm")
  | (refine But.free ?_ (by assumption) (by assumption); walk_at "bt"))
local macro_rules | `(tactic| walk_at "sq") => `(tactic| first
  | assumption
  | exact SqL.of (by assumption)
  | exact SqT.of (by assumption)
  | exact SqL.of upd_same
  | exact SqT.of upd_same
  | (refine Same.seq ?_ (by assumption); walk_at "sm")
  | (refine sm_tp ?_ (by assumption); walk_at "sm")
  | (refine Same.seq ?_ (SqL.of (by assumption)); walk_at "sm")
  | (refine sm_tp ?_ (SqT.of (by assumption)); walk_at "sm")
  | exact SqL.of (by walk_at "hg"))
local macro_rules | `(tactic| walk_at "dp") => `(tactic| first
  | assumption
  | exact Dp.int _
  | exact Dp.bl _
  | exact Dp.non
  | exact Dp.str _
  | exact dp_ints (by walk_at "sq")
  | exact dp_tints (by walk_at "sq")
  | (refine dp_up ?_ (by assumption); walk_at "sm"))
local macro_rules | `(tactic| walk_at "ar") => `(tactic| first
  | omega
  | ((try simp only [List.length_append, List.length_map, List.length_cons, List.length_nil, List.length_replicate, List.length_reverse, List.length_set, Int.toNat_natCast]); omega)
  | ((try simp only [List.length_append, List.length_map, List.length_cons, List.length_nil, List.length_replicate, List.length_reverse, List.length_set, sizeLine_eq]); omega))
local macro_rules | `(tactic| walk_at "sz") => `(tactic| (with_reducible show _ ≤ sizeLine; first | exact szl (by walk_at "ar") | decide))
local macro_rules | `(tactic| walk_at "r1") => `(tactic| first
  | with_reducible refine r_seq ?_
  | with_reducible refine r_asg ?_
  | with_reducible refine r_name ?_
  | with_reducible refine r_if ?_
  | with_reducible refine r_ret ?_
  | with_reducible refine r_retN ?_
  | with_reducible refine r_next ?_
  | with_reducible refine r_drop ?_
  | ((with_reducible refine r_var (v := ?v) ?hv ?_); (case hv => exact rfl))
  | with_reducible refine r_c ?_
  | with_reducible refine r_op ?_
  | with_reducible refine r_un ?_
  | with_reducible refine r_test ?_
  | with_reducible refine r_B ?_
  | with_reducible refine r_and ?_
  | with_reducible refine r_or ?_
  | with_reducible refine r_not ?_
  | with_reducible refine r_ifE ?_
  | with_reducible refine r_exb ?_
  | with_reducible refine r_I0 ?_
  | with_reducible refine r_eqI ?_
  | with_reducible refine r_neI ?_
  | with_reducible refine r_chain ?_
  | with_reducible refine r_cons ?_
  | with_reducible refine r_nil ?_
  | with_reducible refine r_CB ?_
  | with_reducible refine r_call ?_
  | with_reducible refine r_lst ?_
  | with_reducible refine r_tup ?_
  | with_reducible refine r_BM ?_
  | with_reducible refine r_BM0 ?_
  | with_reducible refine r_gsub ?_
  | with_reducible refine r_int1 ?_
  | with_reducible refine r_intB ?_
  | with_reducible refine r_U ?_
  | with_reducible refine r_brk ?_
  | with_reducible refine r_ct ?_
  | with_reducible refine r_ipI ?_
  | with_reducible refine r_max ?_
  | with_reducible refine r_min ?_
  | with_reducible refine r_isN ?_
  | with_reducible refine r_notN ?_
  | with_reducible refine r_for ?_
  | with_reducible refine r_iL ?_
  | with_reducible refine r_iT ?_
  | with_reducible refine r_iR1 ?_
  | with_reducible refine r_iR2 ?_
  | with_reducible refine r_iE ?_
  | with_reducible refine r_lc ?_
  | with_reducible refine r_yes ?_
  | with_reducible refine r_sl ?_
  | with_reducible refine r_nop ?_
  | with_reducible refine r_part ?_
  | with_reducible refine r_exi ?_
  | with_reducible refine r_andV ?_
  | with_reducible refine r_orV ?_
  | with_reducible refine r_notV ?_
  | with_reducible refine r_dput ?_
  | with_reducible refine r_dget1 ?_
  | with_reducible refine r_dget ?_
  | with_reducible refine r_din ?_
  | with_reducible refine r_dnotin ?_
  | with_reducible refine r_gcons ?_
  | with_reducible refine r_gnil ?_
  | with_reducible refine r_fld0 ?_
  | with_reducible refine r_sfld0 ?_
  | with_reducible refine r_meth0 ?_
  | with_reducible refine r_prop0 ?_
  | with_reducible refine r_make ?_
  | with_reducible refine r_revR ?_
  | with_reducible refine r_rg1 ?_
  | with_reducible refine r_dnewT ?_
  | ((with_reducible refine r_aug (x := ?x) ?hv ?_); (case hv => exact rfl))
  | ((with_reducible refine r_lenL (xs := ?xs) ?h0 ?_); (case h0 => walk_at "sq"))
  | ((with_reducible refine r_lenT (xs := ?xs) ?h0 ?_); (case h0 => walk_at "sq"))
  | ((with_reducible refine r_tyL (xs := ?xs) ?h0 ?_); (case h0 => walk_at "sq"))
  | ((with_reducible refine r_append (xs := ?xs) ?h0 ?h1 ?_); (case h0 => walk_at "hg"); (case h1 => walk_at "ar"))
  | ((with_reducible refine r_set (xs := ?xs) ?h0 ?h1 ?h2 ?_); (case h0 => walk_at "hg"); (case h1 => walk_at "ar"); (case h2 => walk_at "ar"))
  | ((with_reducible refine r_pop0 (xs := ?xs) (y := ?y) ?h0 ?_); (case h0 => walk_at "hg"))
  | ((with_reducible refine r_last (xs := ?xs) (v := ?v) ?h0 ?_); (case h0 => walk_at "sq"))
  | ((with_reducible refine r_cat (xs := ?xs) (ys := ?ys) ?h0 ?h1 ?h2 ?_); (case h0 => walk_at "hg"); (case h1 => walk_at "hg"); (case h2 => walk_at "ar"))
  | ((with_reducible refine r_rep1 (v := ?v) ?h0 ?h1 ?h2 ?_); (case h0 => walk_at "hg"); (case h1 => walk_at "ar"); (case h2 => walk_at "ar"))
  | ((with_reducible refine ⟨?h0, ?_⟩); (case h0 => walk_at "sz"))
  | ((with_reducible refine And.intro (a := wipe _ _ = wipe _ _) ?hw ?_); (case hw => exact rfl))
  | ((with_reducible refine r_inI (ls := ?ls) ?h0 ?_); (case h0 => walk_at "sq"))
  | ((with_reducible refine r_niI (ls := ?ls) ?h0 ?_); (case h0 => walk_at "sq"))
  | ((with_reducible refine r_inT (ls := ?ls) ?h0 ?_); (case h0 => walk_at "sq"))
  | ((with_reducible refine r_niT (ls := ?ls) ?h0 ?_); (case h0 => walk_at "sq"))
  | ((with_reducible refine r_sum (ns := ?ns) ?h0 ?_); (case h0 => walk_at "sq"))
  | ((with_reducible refine r_slL (xs := ?xs) ?h0 ?_); (case h0 => walk_at "sq"))
  | ((with_reducible refine r_lstL (xs := ?xs) ?h0 ?_); (case h0 => walk_at "sq"))
  | ((with_reducible refine r_lstT (xs := ?xs) ?h0 ?_); (case h0 => walk_at "sq"))
  | ((with_reducible refine r_tupL (xs := ?xs) ?h0 ?_); (case h0 => walk_at "sq"))
  | ((with_reducible refine r_tupT (xs := ?xs) ?h0 ?_); (case h0 => walk_at "sq"))
  | ((with_reducible refine r_gtup ?_); (refine ⟨_, (by walk_at "sq"), (by exact rfl), ?_⟩))
  | ((with_reducible refine r_fld1 ?_); (refine ⟨_, _, _, _, (by walk_at "hg"), (by assumption), (by assumption), (by exact rfl), ?_⟩))
  | ((with_reducible refine r_sfld1 ?_); (refine ⟨_, _, _, _, (by walk_at "hg"), (by assumption), (by assumption), (by first | decide | simp), (by simp (decide := true) only [putF, if_neg, if_pos] <;> rfl), ?_⟩))
  | ((with_reducible refine r_meth1 ?_); (refine ⟨_, _, (by walk_at "hg"), (by exact rfl), ?_⟩))
  | ((with_reducible refine r_prop1 ?_); (refine ⟨_, _, (by walk_at "hg"), ?_⟩)))
local macro_rules | `(tactic| walk_at "r1n") => `(tactic| first
  | with_reducible refine r_seq ?_
  | with_reducible refine r_asg ?_
  | with_reducible refine r_name ?_
  | with_reducible refine r_ret ?_
  | with_reducible refine r_retN ?_
  | with_reducible refine r_next ?_
  | with_reducible refine r_drop ?_
  | ((with_reducible refine r_var (v := ?v) ?hv ?_); (case hv => exact rfl))
  | with_reducible refine r_c ?_
  | with_reducible refine r_op ?_
  | with_reducible refine r_un ?_
  | with_reducible refine r_test ?_
  | with_reducible refine r_B ?_
  | with_reducible refine r_and ?_
  | with_reducible refine r_or ?_
  | with_reducible refine r_not ?_
  | with_reducible refine r_ifE ?_
  | with_reducible refine r_exb ?_
  | with_reducible refine r_I0 ?_
  | with_reducible refine r_eqI ?_
  | with_reducible refine r_neI ?_
  | with_reducible refine r_chain ?_
  | with_reducible refine r_cons ?_
  | with_reducible refine r_nil ?_
  | with_reducible refine r_CB ?_
  | with_reducible refine r_call ?_
  | with_reducible refine r_lst ?_
  | with_reducible refine r_tup ?_
  | with_reducible refine r_BM ?_
  | with_reducible refine r_BM0 ?_
  | with_reducible refine r_gsub ?_
  | with_reducible refine r_int1 ?_
  | with_reducible refine r_intB ?_
  | with_reducible refine r_U ?_
  | with_reducible refine r_brk ?_
  | with_reducible refine r_ct ?_
  | with_reducible refine r_ipI ?_
  | with_reducible refine r_max ?_
  | with_reducible refine r_min ?_
  | with_reducible refine r_isN ?_
  | with_reducible refine r_notN ?_
  | with_reducible refine r_for ?_
  | with_reducible refine r_iL ?_
  | with_reducible refine r_iT ?_
  | with_reducible refine r_iR1 ?_
  | with_reducible refine r_iR2 ?_
  | with_reducible refine r_iE ?_
  | with_reducible refine r_lc ?_
  | with_reducible refine r_yes ?_
  | with_reducible refine r_sl ?_
  | with_reducible refine r_nop ?_
  | with_reducible refine r_part ?_
  | with_reducible refine r_exi ?_
  | with_reducible refine r_andV ?_
  | with_reducible refine r_orV ?_
  | with_reducible refine r_notV ?_
  | with_reducible refine r_dput ?_
  | with_reducible refine r_dget1 ?_
  | with_reducible refine r_dget ?_
  | with_reducible refine r_din ?_
  | with_reducible refine r_dnotin ?_
  | with_reducible refine r_gcons ?_
  | with_reducible refine r_gnil ?_
  | with_reducible refine r_fld0 ?_
  | with_reducible refine r_sfld0 ?_
  | with_reducible refine r_meth0 ?_
  | with_reducible refine r_prop0 ?_
  | with_reducible refine r_make ?_
  | with_reducible refine r_revR ?_
  | with_reducible refine r_rg1 ?_
  | with_reducible refine r_dnewT ?_
  | ((with_reducible refine r_aug (x := ?x) ?hv ?_); (case hv => exact rfl))
  | ((with_reducible refine r_lenL (xs := ?xs) ?h0 ?_); (case h0 => walk_at "sq"))
  | ((with_reducible refine r_lenT (xs := ?xs) ?h0 ?_); (case h0 => walk_at "sq"))
  | ((with_reducible refine r_tyL (xs := ?xs) ?h0 ?_); (case h0 => walk_at "sq"))
  | ((with_reducible refine r_append (xs := ?xs) ?h0 ?h1 ?_); (case h0 => walk_at "hg"); (case h1 => walk_at "ar"))
  | ((with_reducible refine r_set (xs := ?xs) ?h0 ?h1 ?h2 ?_); (case h0 => walk_at "hg"); (case h1 => walk_at "ar"); (case h2 => walk_at "ar"))
  | ((with_reducible refine r_pop0 (xs := ?xs) (y := ?y) ?h0 ?_); (case h0 => walk_at "hg"))
  | ((with_reducible refine r_last (xs := ?xs) (v := ?v) ?h0 ?_); (case h0 => walk_at "sq"))
  | ((with_reducible refine r_cat (xs := ?xs) (ys := ?ys) ?h0 ?h1 ?h2 ?_); (case h0 => walk_at "hg"); (case h1 => walk_at "hg"); (case h2 => walk_at "ar"))
  | ((with_reducible refine r_rep1 (v := ?v) ?h0 ?h1 ?h2 ?_); (case h0 => walk_at "hg"); (case h1 => walk_at "ar"); (case h2 => walk_at "ar"))
  | ((with_reducible refine ⟨?h0, ?_⟩); (case h0 => walk_at "sz"))
  | ((with_reducible refine And.intro (a := wipe _ _ = wipe _ _) ?hw ?_); (case hw => exact rfl))
  | ((with_reducible refine r_inI (ls := ?ls) ?h0 ?_); (case h0 => walk_at "sq"))
  | ((with_reducible refine r_niI (ls := ?ls) ?h0 ?_); (case h0 => walk_at "sq"))
  | ((with_reducible refine r_inT (ls := ?ls) ?h0 ?_); (case h0 => walk_at "sq"))
  | ((with_reducible refine r_niT (ls := ?ls) ?h0 ?_); (case h0 => walk_at "sq"))
  | ((with_reducible refine r_sum (ns := ?ns) ?h0 ?_); (case h0 => walk_at "sq"))
  | ((with_reducible refine r_slL (xs := ?xs) ?h0 ?_); (case h0 => walk_at "sq"))
  | ((with_reducible refine r_lstL (xs := ?xs) ?h0 ?_); (case h0 => walk_at "sq"))
  | ((with_reducible refine r_lstT (xs := ?xs) ?h0 ?_); (case h0 => walk_at "sq"))
  | ((with_reducible refine r_tupL (xs := ?xs) ?h0 ?_); (case h0 => walk_at "sq"))
  | ((with_reducible refine r_tupT (xs := ?xs) ?h0 ?_); (case h0 => walk_at "sq"))
  | ((with_reducible refine r_gtup ?_); (refine ⟨_, (by walk_at "sq"), (by exact rfl), ?_⟩))
  | ((with_reducible refine r_fld1 ?_); (refine ⟨_, _, _, _, (by walk_at "hg"), (by assumption), (by assumption), (by exact rfl), ?_⟩))
  | ((with_reducible refine r_sfld1 ?_); (refine ⟨_, _, _, _, (by walk_at "hg"), (by assumption), (by assumption), (by first | decide | simp), (by simp (decide := true) only [putF, if_neg, if_pos] <;> rfl), ?_⟩))
  | ((with_reducible refine r_meth1 ?_); (refine ⟨_, _, (by walk_at "hg"), (by exact rfl), ?_⟩))
  | ((with_reducible refine r_prop1 ?_); (refine ⟨_, _, (by walk_at "hg"), ?_⟩)))
local macro_rules | `(tactic| walk_at "rn") => `(tactic| repeat (walk_at "r1n"))
local macro_rules | `(tactic| walk_at "ri") => `(tactic| (walk_at "rn"; with_reducible show tIfS _ _ _ _ _ _))
local macro_rules | `(tactic| walk_at "rd") => `(tactic| repeat (walk_at "r1"))
/-- a def of the module, a class, a method -/
structure Df (K : PySem.W.Frag) (mg : Str → Option Value) (x : Str) (st : Stmt) (ps : List Str) where
  a : Addr
  fd : FuncData
  F : Fun K x x st a fd
  b : Binds K fd ps []
  g : mg x = some (.ref a)
structure Mf (K : PySem.W.Frag) (x qual : Str) (st : Stmt) (ps : List Str) where
  a : Addr
  fd : FuncData
  F : Fun K x qual st a fd
  b : Binds K fd ps []
structure Cf (K : PySem.W.Frag) (mg : Str → Option Value) (x : Str) where
  C : Addr
  cl : Cls K C
  g : mg x = some (.ref C)
def topS (i : Nat) : Stmt := PySem.Challenge.pw_packedtrees_k88_whole_kinds_on_webs.main.body.getD i (.Pass ⟨0, 0, 0, 0⟩)
abbrev s_law_pool : Stmt := topS 42
abbrev N_law_pool : List Str := ["script", "cell", "cells", "total"]
abbrev P_law_pool : List Str := ["script"]
theorem sc_law_pool : FnScope N_law_pool P_law_pool (defScope s_law_pool) := ⟨rfl, rfl, rfl, by decide +kernel, rfl, by decide +kernel, by decide +kernel⟩
abbrev s_law_draw : Stmt := topS 43
abbrev N_law_draw : List Str := ["pool", "base", "digit", "rest"]
abbrev P_law_draw : List Str := ["pool", "base"]
theorem sc_law_draw : FnScope N_law_draw P_law_draw (defScope s_law_draw) := ⟨rfl, rfl, rfl, by decide +kernel, rfl, by decide +kernel, by decide +kernel⟩
abbrev s_law_tree : Stmt := topS 44
abbrev N_law_tree : List Str := ["pool", "many", "kinds", "r", "deep", "k", "up"]
abbrev P_law_tree : List Str := ["pool", "many", "kinds"]
theorem sc_law_tree : FnScope N_law_tree P_law_tree (defScope s_law_tree) := ⟨rfl, rfl, rfl, by decide +kernel, rfl, by decide +kernel, by decide +kernel⟩
abbrev s_law_nodes : Stmt := topS 45
abbrev N_law_nodes : List Str := ["r", "t", "pile", "post", "k", "v"]
abbrev P_law_nodes : List Str := ["r"]
theorem sc_law_nodes : FnScope N_law_nodes P_law_nodes (defScope s_law_nodes) := ⟨rfl, rfl, rfl, by decide +kernel, rfl, by decide +kernel, by decide +kernel⟩
abbrev s_law_kids : Stmt := topS 46
abbrev N_law_kids : List Str := ["t", "v", "but", "k"]
abbrev P_law_kids : List Str := ["t", "v", "but"]
theorem sc_law_kids : FnScope N_law_kids P_law_kids (defScope s_law_kids) := ⟨rfl, rfl, rfl, by decide +kernel, rfl, by decide +kernel, by decide +kernel⟩
abbrev s_law_rules : Stmt := topS 47
abbrev N_law_rules : List Str := ["pool", "t", "rules", "a", "v", "same", "mine", "k", "below", "c", "many", "b"]
abbrev P_law_rules : List Str := ["pool", "t"]
theorem sc_law_rules : FnScope N_law_rules P_law_rules (defScope s_law_rules) := ⟨rfl, rfl, rfl, by decide +kernel, rfl, by decide +kernel, by decide +kernel⟩
abbrev s_law_breaks : Stmt := topS 48
abbrev N_law_breaks : List Str := ["roots", "rules", "t", "found", "v", "kids", "rule", "k"]
abbrev P_law_breaks : List Str := ["roots", "rules", "t"]
theorem sc_law_breaks : FnScope N_law_breaks P_law_breaks (defScope s_law_breaks) := ⟨rfl, rfl, rfl, by decide +kernel, rfl, by decide +kernel, by decide +kernel⟩
abbrev s_law_given : Stmt := topS 49
abbrev N_law_given : List Str := ["rules", "given", "a"]
abbrev P_law_given : List Str := ["rules"]
theorem sc_law_given : FnScope N_law_given P_law_given (defScope s_law_given) := ⟨rfl, rfl, rfl, by decide +kernel, rfl, by decide +kernel, by decide +kernel⟩
abbrev s_law_spoilt : Stmt := topS 50
abbrev N_law_spoilt : List Str := ["pool", "roots", "rules", "t", "x", "a", "up", "way", "many", "c", "left", "b"]
abbrev P_law_spoilt : List Str := ["pool", "roots", "rules", "t"]
theorem sc_law_spoilt : FnScope N_law_spoilt P_law_spoilt (defScope s_law_spoilt) := ⟨rfl, rfl, rfl, by decide +kernel, rfl, by decide +kernel, by decide +kernel⟩
abbrev s_law_refused : Stmt := topS 51
abbrev N_law_refused : List Str := ["web", "name", "kind", "e", "found"]
abbrev P_law_refused : List Str := ["web", "name", "kind"]
theorem sc_law_refused : FnScope N_law_refused P_law_refused (defScope s_law_refused) := ⟨rfl, rfl, rfl, by decide +kernel, rfl, by decide +kernel, by decide +kernel⟩
abbrev s_law_own : Stmt := topS 52
abbrev N_law_own : List Str := ["rules", "a", "many", "kid"]
abbrev P_law_own : List Str := ["rules", "a", "many", "kid"]
theorem sc_law_own : FnScope N_law_own P_law_own (defScope s_law_own) := ⟨rfl, rfl, rfl, by decide +kernel, rfl, by decide +kernel, by decide +kernel⟩
abbrev s_law_great : Stmt := topS 53
abbrev N_law_great : List Str := ["pool", "web", "name", "kind", "roots", "rules", "t", "top", "under", "nodes", "inner", "own", "k", "many", "a", "row", "i", "due", "told", "pair"]
abbrev P_law_great : List Str := ["pool", "web", "name", "kind", "roots", "rules", "t"]
theorem sc_law_great : FnScope N_law_great P_law_great (defScope s_law_great) := ⟨rfl, rfl, rfl, by decide +kernel, rfl, by decide +kernel, by decide +kernel⟩
abbrev s_law : Stmt := topS 54
abbrev N_law : List Str := ["script", "pool", "r", "t", "rules", "other", "a", "roots", "given", "kind", "due", "told", "v", "tree", "broken", "web", "name", "missing"]
abbrev P_law : List Str := ["script"]
theorem sc_law : FnScope N_law P_law (defScope s_law) := ⟨rfl, rfl, rfl, by decide +kernel, rfl, by decide +kernel, by decide +kernel⟩
abbrev s_checked_row : Stmt := topS 13
abbrev N_checked_row : List Str := ["row", "place", "sign"]
abbrev P_checked_row : List Str := ["row"]
theorem sc_checked_row : FnScope N_checked_row P_checked_row (defScope s_checked_row) := ⟨rfl, rfl, rfl, by decide +kernel, rfl, by decide +kernel, by decide +kernel⟩
abbrev s_matched : Stmt := topS 15
abbrev N_matched : List Str := ["row", "signs", "partners", "waiting", "place", "sign", "opening"]
abbrev P_matched : List Str := ["row"]
theorem sc_matched : FnScope N_matched P_matched (defScope s_matched) := ⟨rfl, rfl, rfl, by decide +kernel, rfl, by decide +kernel, by decide +kernel⟩
abbrev s_checked_balanced : Stmt := topS 16
abbrev N_checked_balanced : List Str := ["row", "partners", "place", "sign"]
abbrev P_checked_balanced : List Str := ["row"]
theorem sc_checked_balanced : FnScope N_checked_balanced P_checked_balanced (defScope s_checked_balanced) := ⟨rfl, rfl, rfl, by decide +kernel, rfl, by decide +kernel, by decide +kernel⟩
abbrev s_opening_number : Stmt := topS 18
abbrev N_opening_number : List Str := ["signs", "numbers", "place"]
abbrev P_opening_number : List Str := ["signs", "numbers", "place"]
theorem sc_opening_number : FnScope N_opening_number P_opening_number (defScope s_opening_number) := ⟨rfl, rfl, rfl, by decide +kernel, rfl, by decide +kernel, by decide +kernel⟩
abbrev s_binary_of_row : Stmt := topS 19
abbrev N_binary_of_row : List Str := ["row", "signs", "partners", "numbers", "opened", "sign", "triples", "place", "left", "right"]
abbrev P_binary_of_row : List Str := ["row"]
theorem sc_binary_of_row : FnScope N_binary_of_row P_binary_of_row (defScope s_binary_of_row) := ⟨rfl, rfl, rfl, by decide +kernel, rfl, by decide +kernel, by decide +kernel⟩
abbrev s_Treeinit : Stmt := inClass (topS 21) 0
abbrev N_Treeinit : List Str := ["self", "pairs", "path", "kids", "place", "up", "label", "fits", "pair", "row"]
abbrev P_Treeinit : List Str := ["self", "pairs"]
theorem sc_Treeinit : FnScope N_Treeinit P_Treeinit (defScope s_Treeinit) := ⟨rfl, rfl, rfl, by decide +kernel, rfl, by decide +kernel, by decide +kernel⟩
abbrev s_Tree_nodes : Stmt := inClass (topS 21) 1
abbrev N_Tree_nodes : List Str := ["self"]
abbrev P_Tree_nodes : List Str := ["self"]
theorem sc_Tree_nodes : FnScope N_Tree_nodes P_Tree_nodes (defScope s_Tree_nodes) := ⟨rfl, rfl, rfl, by decide +kernel, rfl, by decide +kernel, by decide +kernel⟩
abbrev s_Tree_label_of : Stmt := inClass (topS 21) 3
abbrev N_Tree_label_of : List Str := ["self", "node"]
abbrev P_Tree_label_of : List Str := ["self", "node"]
theorem sc_Tree_label_of : FnScope N_Tree_label_of P_Tree_label_of (defScope s_Tree_label_of) := ⟨rfl, rfl, rfl, by decide +kernel, rfl, by decide +kernel, by decide +kernel⟩
abbrev s_Tree_kids_of : Stmt := inClass (topS 21) 4
abbrev N_Tree_kids_of : List Str := ["self", "node"]
abbrev P_Tree_kids_of : List Str := ["self", "node"]
theorem sc_Tree_kids_of : FnScope N_Tree_kids_of P_Tree_kids_of (defScope s_Tree_kids_of) := ⟨rfl, rfl, rfl, by decide +kernel, rfl, by decide +kernel, by decide +kernel⟩
abbrev s_Tree_entries : Stmt := inClass (topS 21) 5
abbrev N_Tree_entries : List Str := ["self", "node"]
abbrev P_Tree_entries : List Str := ["self"]
theorem sc_Tree_entries : FnScope N_Tree_entries P_Tree_entries (defScope s_Tree_entries) := ⟨rfl, rfl, rfl, by decide +kernel, rfl, by decide +kernel, by decide +kernel⟩
abbrev s_row_of_tree : Stmt := topS 23
abbrev N_row_of_tree : List Str := ["tree", "row", "path", "node", "up", "label"]
abbrev P_row_of_tree : List Str := ["tree"]
theorem sc_row_of_tree : FnScope N_row_of_tree P_row_of_tree (defScope s_row_of_tree) := ⟨rfl, rfl, rfl, by decide +kernel, rfl, by decide +kernel, by decide +kernel⟩
abbrev s_Webinit : Stmt := inClass (topS 28) 0
abbrev N_Webinit : List Str := ["self"]
abbrev P_Webinit : List Str := ["self"]
theorem sc_Webinit : FnScope N_Webinit P_Webinit (defScope s_Webinit) := ⟨rfl, rfl, rfl, by decide +kernel, rfl, by decide +kernel, by decide +kernel⟩
abbrev s_Web_checked_forest : Stmt := inClass (topS 28) 2
abbrev N_Web_checked_forest : List Str := ["self", "name"]
abbrev P_Web_checked_forest : List Str := ["self", "name"]
theorem sc_Web_checked_forest : FnScope N_Web_checked_forest P_Web_checked_forest (defScope s_Web_checked_forest) := ⟨rfl, rfl, rfl, by decide +kernel, rfl, by decide +kernel, by decide +kernel⟩
abbrev s_Web_forest : Stmt := inClass (topS 28) 3
abbrev N_Web_forest : List Str := ["self", "label", "kids", "rest", "nodes", "triple"]
abbrev P_Web_forest : List Str := ["self", "label", "kids", "rest"]
theorem sc_Web_forest : FnScope N_Web_forest P_Web_forest (defScope s_Web_forest) := ⟨rfl, rfl, rfl, by decide +kernel, rfl, by decide +kernel, by decide +kernel⟩
abbrev s_Web_parts_of : Stmt := inClass (topS 28) 4
abbrev N_Web_parts_of : List Str := ["self", "name"]
abbrev P_Web_parts_of : List Str := ["self", "name"]
theorem sc_Web_parts_of : FnScope N_Web_parts_of P_Web_parts_of (defScope s_Web_parts_of) := ⟨rfl, rfl, rfl, by decide +kernel, rfl, by decide +kernel, by decide +kernel⟩
abbrev s_Web_node_count : Stmt := inClass (topS 28) 5
abbrev N_Web_node_count : List Str := ["self", "name"]
abbrev P_Web_node_count : List Str := ["self", "name"]
theorem sc_Web_node_count : FnScope N_Web_node_count P_Web_node_count (defScope s_Web_node_count) := ⟨rfl, rfl, rfl, by decide +kernel, rfl, by decide +kernel, by decide +kernel⟩
abbrev s_Web_tree_count : Stmt := inClass (topS 28) 6
abbrev N_Web_tree_count : List Str := ["self", "name"]
abbrev P_Web_tree_count : List Str := ["self", "name"]
theorem sc_Web_tree_count : FnScope N_Web_tree_count P_Web_tree_count (defScope s_Web_tree_count) := ⟨rfl, rfl, rfl, by decide +kernel, rfl, by decide +kernel, by decide +kernel⟩
abbrev s_Web_of_row : Stmt := inClass (topS 28) 9
abbrev N_Web_of_row : List Str := ["self", "row", "triples", "made", "node", "label", "left", "right"]
abbrev P_Web_of_row : List Str := ["self", "row"]
theorem sc_Web_of_row : FnScope N_Web_of_row P_Web_of_row (defScope s_Web_of_row) := ⟨rfl, rfl, rfl, by decide +kernel, rfl, by decide +kernel, by decide +kernel⟩
abbrev s_Web_of_tree : Stmt := inClass (topS 28) 10
abbrev N_Web_of_tree : List Str := ["self", "tree"]
abbrev P_Web_of_tree : List Str := ["self", "tree"]
theorem sc_Web_of_tree : FnScope N_Web_of_tree P_Web_of_tree (defScope s_Web_of_tree) := ⟨rfl, rfl, rfl, by decide +kernel, rfl, by decide +kernel, by decide +kernel⟩
abbrev s_parts_below : Stmt := topS 29
abbrev N_parts_below : List Str := ["web", "name", "found", "waiting", "part", "triple"]
abbrev P_parts_below : List Str := ["web", "name"]
theorem sc_parts_below : FnScope N_parts_below P_parts_below (defScope s_parts_below) := ⟨rfl, rfl, rfl, by decide +kernel, rfl, by decide +kernel, by decide +kernel⟩
abbrev s_ascending_between : Stmt := topS 32
abbrev N_ascending_between : List Str := ["members", "low", "high", "last", "member"]
abbrev P_ascending_between : List Str := ["members", "low", "high"]
theorem sc_ascending_between : FnScope N_ascending_between P_ascending_between (defScope s_ascending_between) := ⟨rfl, rfl, rfl, by decide +kernel, rfl, by decide +kernel, by decide +kernel⟩
abbrev s_Kindinit : Stmt := inClass (topS 33) 0
abbrev N_Kindinit : List Str := ["self", "roots", "rules", "kept", "label", "counts", "labels"]
abbrev P_Kindinit : List Str := ["self", "roots", "rules"]
theorem sc_Kindinit : FnScope N_Kindinit P_Kindinit (defScope s_Kindinit) := ⟨rfl, rfl, rfl, by decide +kernel, rfl, by decide +kernel, by decide +kernel⟩
abbrev s_Kind_roots : Stmt := inClass (topS 33) 1
abbrev N_Kind_roots : List Str := ["self"]
abbrev P_Kind_roots : List Str := ["self"]
theorem sc_Kind_roots : FnScope N_Kind_roots P_Kind_roots (defScope s_Kind_roots) := ⟨rfl, rfl, rfl, by decide +kernel, rfl, by decide +kernel, by decide +kernel⟩
abbrev s_Kind_rule : Stmt := inClass (topS 33) 2
abbrev N_Kind_rule : List Str := ["self", "label"]
abbrev P_Kind_rule : List Str := ["self", "label"]
theorem sc_Kind_rule : FnScope N_Kind_rule P_Kind_rule (defScope s_Kind_rule) := ⟨rfl, rfl, rfl, by decide +kernel, rfl, by decide +kernel, by decide +kernel⟩
abbrev s_lets_number : Stmt := topS 34
abbrev N_lets_number : List Str := ["rule", "many"]
abbrev P_lets_number : List Str := ["rule", "many"]
theorem sc_lets_number : FnScope N_lets_number P_lets_number (defScope s_lets_number) := ⟨rfl, rfl, rfl, by decide +kernel, rfl, by decide +kernel, by decide +kernel⟩
abbrev s_lets_kids : Stmt := topS 35
abbrev N_lets_kids : List Str := ["rule", "many", "labels", "label"]
abbrev P_lets_kids : List Str := ["rule", "many", "labels"]
theorem sc_lets_kids : FnScope N_lets_kids P_lets_kids (defScope s_lets_kids) := ⟨rfl, rfl, rfl, by decide +kernel, rfl, by decide +kernel, by decide +kernel⟩
abbrev s_broken_rules : Stmt := topS 36
abbrev N_broken_rules : List Str := ["kind", "tree", "found", "node", "kid", "labels"]
abbrev P_broken_rules : List Str := ["kind", "tree"]
theorem sc_broken_rules : FnScope N_broken_rules P_broken_rules (defScope s_broken_rules) := ⟨rfl, rfl, rfl, by decide +kernel, rfl, by decide +kernel, by decide +kernel⟩
abbrev s_breaking_nodes : Stmt := topS 37
abbrev N_breaking_nodes : List Str := ["kind", "tree", "found"]
abbrev P_breaking_nodes : List Str := ["kind", "tree"]
theorem sc_breaking_nodes : FnScope N_breaking_nodes P_breaking_nodes (defScope s_breaking_nodes) := ⟨rfl, rfl, rfl, by decide +kernel, rfl, by decide +kernel, by decide +kernel⟩
abbrev s_is_of_kind : Stmt := topS 38
abbrev N_is_of_kind : List Str := ["kind", "tree"]
abbrev P_is_of_kind : List Str := ["kind", "tree"]
theorem sc_is_of_kind : FnScope N_is_of_kind P_is_of_kind (defScope s_is_of_kind) := ⟨rfl, rfl, rfl, by decide +kernel, rfl, by decide +kernel, by decide +kernel⟩
abbrev s_web_breaks : Stmt := topS 40
abbrev N_web_breaks : List Str := ["web", "name", "kind", "broken", "root_labels", "fitting", "forest", "label", "kids", "rest", "others"]
abbrev P_web_breaks : List Str := ["web", "name", "kind"]
theorem sc_web_breaks : FnScope N_web_breaks P_web_breaks (defScope s_web_breaks) := ⟨rfl, rfl, rfl, by decide +kernel, rfl, by decide +kernel, by decide +kernel⟩
/-- what the top has left -/
structure Tx (K : PySem.W.Frag) (mg : Str → Option Value) where
  b_len : mg "len" = none
  b_int : mg "int" = none
  b_range : mg "range" = none
  b_enumerate : mg "enumerate" = none
  b_tuple : mg "tuple" = none
  b_list : mg "list" = none
  b_repr : mg "repr" = none
  b_isinstance : mg "isinstance" = none
  b_sum : mg "sum" = none
  b_max : mg "max" = none
  b_reversed : mg "reversed" = none
  b_sorted : mg "sorted" = none
  b_ValueError : mg "ValueError" = none
  t_MOST_NODES : Tok
  c_MOST_NODES : mg "MOST_NODES" = some (Value.int (2 ^ 59) t_MOST_NODES)
  t_MOST_KIDS : Tok
  c_MOST_KIDS : mg "MOST_KIDS" = some (Value.int (40) t_MOST_KIDS)
  t_CLOSE : Tok
  c_CLOSE : mg "CLOSE" = some (Value.int (-1) t_CLOSE)
  t_MOST_READ : Tok
  c_MOST_READ : mg "MOST_READ" = some (Value.int (4096) t_MOST_READ)
  Tree : Cf K mg "Tree"
  Web : Cf K mg "Web"
  Kind : Cf K mg "Kind"
  d_law_pool : Df K mg "_law_pool" s_law_pool P_law_pool
  d_law_draw : Df K mg "_law_draw" s_law_draw P_law_draw
  d_law_tree : Df K mg "_law_tree" s_law_tree P_law_tree
  d_law_nodes : Df K mg "_law_nodes" s_law_nodes P_law_nodes
  d_law_kids : Df K mg "_law_kids" s_law_kids P_law_kids
  d_law_rules : Df K mg "_law_rules" s_law_rules P_law_rules
  d_law_breaks : Df K mg "_law_breaks" s_law_breaks P_law_breaks
  d_law_given : Df K mg "_law_given" s_law_given P_law_given
  d_law_spoilt : Df K mg "_law_spoilt" s_law_spoilt P_law_spoilt
  d_law_refused : Df K mg "_law_refused" s_law_refused P_law_refused
  d_law_own : Df K mg "_law_own" s_law_own P_law_own
  d_law_great : Df K mg "_law_great" s_law_great P_law_great
  d_law : Df K mg "law" s_law P_law
  d_checked_row : Df K mg "checked_row" s_checked_row P_checked_row
  d_matched : Df K mg "matched" s_matched P_matched
  d_checked_balanced : Df K mg "checked_balanced" s_checked_balanced P_checked_balanced
  d_opening_number : Df K mg "opening_number" s_opening_number P_opening_number
  d_binary_of_row : Df K mg "binary_of_row" s_binary_of_row P_binary_of_row
  d_Treeinit : Mf K "__init__" "Tree.__init__" s_Treeinit P_Treeinit
  k_Tree : Mk K Tree.C d_Treeinit.a
  d_Tree_nodes : Mf K "nodes" "Tree.nodes" s_Tree_nodes P_Tree_nodes
  pa_Tree_nodes : Addr
  p_Tree_nodes : PropOf K Tree.C "nodes" pa_Tree_nodes d_Tree_nodes.a
  d_Tree_label_of : Mf K "label_of" "Tree.label_of" s_Tree_label_of P_Tree_label_of
  m_Tree_label_of : Meth K Tree.C "label_of" d_Tree_label_of.a
  d_Tree_kids_of : Mf K "kids_of" "Tree.kids_of" s_Tree_kids_of P_Tree_kids_of
  m_Tree_kids_of : Meth K Tree.C "kids_of" d_Tree_kids_of.a
  d_Tree_entries : Mf K "entries" "Tree.entries" s_Tree_entries P_Tree_entries
  m_Tree_entries : Meth K Tree.C "entries" d_Tree_entries.a
  d_row_of_tree : Df K mg "row_of_tree" s_row_of_tree P_row_of_tree
  d_Webinit : Mf K "__init__" "Web.__init__" s_Webinit P_Webinit
  k_Web : Mk K Web.C d_Webinit.a
  d_Web_checked_forest : Mf K "checked_forest" "Web.checked_forest" s_Web_checked_forest P_Web_checked_forest
  m_Web_checked_forest : Meth K Web.C "checked_forest" d_Web_checked_forest.a
  d_Web_forest : Mf K "forest" "Web.forest" s_Web_forest P_Web_forest
  m_Web_forest : Meth K Web.C "forest" d_Web_forest.a
  d_Web_parts_of : Mf K "parts_of" "Web.parts_of" s_Web_parts_of P_Web_parts_of
  m_Web_parts_of : Meth K Web.C "parts_of" d_Web_parts_of.a
  d_Web_node_count : Mf K "node_count" "Web.node_count" s_Web_node_count P_Web_node_count
  m_Web_node_count : Meth K Web.C "node_count" d_Web_node_count.a
  d_Web_tree_count : Mf K "tree_count" "Web.tree_count" s_Web_tree_count P_Web_tree_count
  m_Web_tree_count : Meth K Web.C "tree_count" d_Web_tree_count.a
  d_Web_of_row : Mf K "of_row" "Web.of_row" s_Web_of_row P_Web_of_row
  m_Web_of_row : Meth K Web.C "of_row" d_Web_of_row.a
  d_Web_of_tree : Mf K "of_tree" "Web.of_tree" s_Web_of_tree P_Web_of_tree
  m_Web_of_tree : Meth K Web.C "of_tree" d_Web_of_tree.a
  d_parts_below : Df K mg "parts_below" s_parts_below P_parts_below
  d_ascending_between : Df K mg "ascending_between" s_ascending_between P_ascending_between
  d_Kindinit : Mf K "__init__" "Kind.__init__" s_Kindinit P_Kindinit
  k_Kind : Mk K Kind.C d_Kindinit.a
  d_Kind_roots : Mf K "roots" "Kind.roots" s_Kind_roots P_Kind_roots
  pa_Kind_roots : Addr
  p_Kind_roots : PropOf K Kind.C "roots" pa_Kind_roots d_Kind_roots.a
  d_Kind_rule : Mf K "rule" "Kind.rule" s_Kind_rule P_Kind_rule
  m_Kind_rule : Meth K Kind.C "rule" d_Kind_rule.a
  d_lets_number : Df K mg "lets_number" s_lets_number P_lets_number
  d_lets_kids : Df K mg "lets_kids" s_lets_kids P_lets_kids
  d_broken_rules : Df K mg "broken_rules" s_broken_rules P_broken_rules
  d_breaking_nodes : Df K mg "breaking_nodes" s_breaking_nodes P_breaking_nodes
  d_is_of_kind : Df K mg "is_of_kind" s_is_of_kind P_is_of_kind
  d_web_breaks : Df K mg "web_breaks" s_web_breaks P_web_breaks
  n_Tree_above : NoAttr K Tree.C "above"
  n_Tree_marks : NoAttr K Tree.C "marks"
  n_Tree_below : NoAttr K Tree.C "below"
  n_Web_kept_parts : NoAttr K Web.C "kept_parts"
  n_Web_kept_nodes : NoAttr K Web.C "kept_nodes"
  n_Web_kept_trees : NoAttr K Web.C "kept_trees"
  n_Web_names_by_parts : NoAttr K Web.C "names_by_parts"
  n_Kind_first_labels : NoAttr K Kind.C "first_labels"
  n_Kind_label_rules : NoAttr K Kind.C "label_rules"

abbrev s_NoNameinit : Stmt := inClass (topS 9) 0
abbrev N_NoNameinit : List Str := ["self", "missing"]
abbrev P_NoNameinit : List Str := ["self", "missing"]
theorem sc_NoNameinit : FnScope N_NoNameinit P_NoNameinit (defScope s_NoNameinit) := ⟨rfl, rfl, rfl, by decide +kernel, rfl, by decide +kernel, by decide +kernel⟩
structure Ox (K : PySem.W.Frag) (mg : Str → Option Value) where
  nnC : Addr
  nnG : mg "NoName" = some (.ref nnC)
  nnO : OexC K nnC
  d_nn : Mf K "__init__" "NoName.__init__" s_NoNameinit P_NoNameinit
  nnI : PySem.W.findIn K (.ref nnC) "__init__" = some (some (.ref d_nn.a))
  nnT : PySem.W.typeIn K (.ref d_nn.a) = some (.type "function")
  nnF : PySem.W.findIn K (.ref nnC) "missing" = some none
  ntC : Addr
  ntG : mg "NotTree" = some (.ref ntC)
  ntX : PySem.W.excIn K ntC [.type "ValueError", .type "Exception", .type "BaseException", .type "object"] "ValueError.__new__" = true
  ntK : PySem.W.keepIn K (.ref ntC) = true
  ntB : PySem.W.subIn K (.ref ntC) (.type "BaseException") = some true
  ntT : PySem.W.typeIn K (.ref ntC) = some (.type "type")
  peC : Addr
  peG : mg "PackError" = some (.ref peC)
  nnE : PySem.W.exmOne K (.ref nnC) (.ref peC) = some true
  ntE : PySem.W.exmOne K (.ref ntC) (.ref peC) = some true
section
variable {X : Cx}
theorem pmk_own0 {C : Addr} {bmB : List Value} {B newId initId : String} {x : Str} {p pos : Pos} (F : ExcBaseFacts B newId initId bmB) (q : PySem.W.excIn X.K C bmB newId = true) (gC : X.mg x = some (.ref C)) (kC : PySem.W.keepIn X.K (.ref C) = true) (r : Raises X (.ref C)) (hg : Gl X x)
    (hdb : (x == ("__debug__" : Str)) = false := by decide) : PMk X (.Call (.Name x p) [] [] pos) (fun σ H Q => Q (.ref C) none H) := by
  intro pins s σ H Q I h
  refine wpAny_Call_Name_kw (ld_glob I hg gC ?_ hdb)
  refine PySem.W.callWith_K0 I.kIn kC ?_
  show wpAny _ _ (call (.ref C) []) _ _ _
  obtain ⟨bm, N, nm, qn, bs, hdct, sn, sub, ab, col, dd, k0, k1, k2, k3, k5, mN, hC, hN, hni, T⟩ := exc_obj I.kIn q
  refine wpAny_call_exc_subT F T hC hN hni (fun h' e hm => ?_) (by show 0 ≤ sizeLine; exact Nat.zero_le _)
  exact mk_of I hm r h (I.hok.gone hm.new)
end
section
variable {P : Program} {w : World} {K : PySem.W.Frag} {mg : Str → Option Value} {base : Heap}
def sp_NoNameinit (O : Ox K mg) : Sp := fun vs H Q _ => ∃ (a : Addr) (y : V), vs = [.ref a, y] ∧ H a = some (exo a O.nnC none) ∧ ∀ dx, H dx = none → dx ≠ a → Q .non (upd (upd H dx (exd dx [("missing", y)])) a (exo a O.nnC (some dx)))
theorem ok_NoNameinit (O : Ox K mg) : FnOk P w K mg base CX0 1 O.d_nn.a O.d_nn.fd P_NoNameinit (sp_NoNameinit O) := by
  refine O.d_nn.F.ok sc_NoNameinit (fun vs H Q E h => ?_) (fun cdv A outer s H vs Q E hr h => ?_)
  · obtain ⟨_, _, rfl, _⟩ := h
    rfl
  · obtain ⟨a, y, rfl, ha, k⟩ := h
    refine ⟨_, (pss_one (ps_ost (pv 0) (pv 1) rfl)), ?_⟩
    try simp only [nxK, cxK]
    exact ⟨y, rfl, .ref a, rfl, a, O.nnC, rfl, O.nnO, O.nnF, .inl ⟨ha, fun dx hdx ne => k dx hdx ne⟩⟩
end

/-! ### partners and numbers of a row -/
def partF (b : Nat) : Fo → List Int
  | .nil => []
  | .cons _ k r => ((b + 1 + 2 * szF k : Nat) : Int) :: (partF (b + 1) k ++ (b : Int) :: partF (b + 2 + 2 * szF k) r)
def numF (s : Nat) : Fo → List Int
  | .nil => []
  | .cons _ k r => (s : Int) :: (numF (s + 1) k ++ ((s + 1 + szF k : Nat) : Int) :: numF (s + 1 + szF k) r)
def hdN (s : Nat) : Fo → Int
  | .nil => -1
  | .cons _ _ _ => (s : Int)
def triF (s : Nat) : Fo → List (Int × Int × Int)
  | .nil => []
  | .cons l k r => (l, hdN (s + 1) k, hdN (s + 1 + szF k) r) :: (triF (s + 1) k ++ triF (s + 1 + szF k) r)
theorem partF_len : ∀ (f : Fo) (b : Nat), (partF b f).length = 2 * szF f
  | .nil, _ => rfl
  | .cons l k r, b => by
    simp only [partF, szF, List.length_cons, List.length_append, partF_len k, partF_len r]
    omega
theorem numF_len : ∀ (f : Fo) (b : Nat), (numF b f).length = 2 * szF f
  | .nil, _ => rfl
  | .cons l k r, b => by
    simp only [numF, szF, List.length_cons, List.length_append, numF_len k, numF_len r]
    omega
theorem triF_len : ∀ (f : Fo) (b : Nat), (triF b f).length = szF f
  | .nil, _ => rfl
  | .cons l k r, b => by
    simp only [triF, szF, List.length_cons, List.length_append, triF_len k, triF_len r]
    omega
theorem partF_in : ∀ (f : Fo) (b : Nat), ∀ x ∈ partF b f, (b : Int) ≤ x ∧ x < ((b + 2 * szF f : Nat) : Int)
  | .nil, _, x, h => by simp [partF] at h
  | .cons l k r, b, x, h => by
    simp only [partF, List.mem_cons, List.mem_append] at h
    simp only [szF]
    rcases h with e | e | e | e
    · omega
    · have := partF_in k _ x e
      omega
    · omega
    · have := partF_in r _ x e
      omega
theorem foldl_take_succ {σ α : Type} {f : σ → α → σ} {l : List α} {i : Nat} {x : α} (h : l[i]? = some x) (s : σ) : (l.take (i + 1)).foldl f s = f ((l.take i).foldl f s) x := by
  rw [List.take_add_one, h, List.foldl_append]
  rfl
def mstep : Nat × List Int × List Nat → Int → Nat × List Int × List Nat
  | (i, P, W), x => if 0 < x then (i + 1, P, i :: W) else match W with
    | [] => (i + 1, P, [])
    | o :: W' => (i + 1, (P.set o (i : Int)).set i (o : Int), W')
theorem mstep0 (i o : Nat) (P : List Int) (W : List Nat) : mstep (i, P, o :: W) 0 = (i + 1, (P.set o (i : Int)).set i (o : Int), W) := rfl
theorem set_mid {A B : List Int} {x y : Int} {n : Nat} (h : A.length = n) : (A ++ x :: B).set n y = A ++ y :: B := by
  subst h
  rw [List.set_append_right _ _ (Nat.le_refl _), Nat.sub_self, List.set_cons_zero]
def neg1 (n : Nat) : List Int := List.replicate n (-1)
theorem neg1_add (a b : Nat) : neg1 (a + b) = neg1 a ++ neg1 b := by
  unfold neg1
  rw [List.replicate_append_replicate]
theorem neg1_succ (n : Nat) : neg1 (n + 1) = -1 :: neg1 n := rfl
theorem mrun_row : ∀ (f : Fo), okF f → ∀ (A B : List Int) (n : Nat) (W : List Nat), A.length = n → (rowF f).foldl mstep (n, A ++ (neg1 (2 * szF f) ++ B), W) = (n + 2 * szF f, A ++ (partF n f ++ B), W)
  | .nil, _, A, B, n, W, _ => by simp [rowF, partF, szF, neg1]
  | .cons l k r, ⟨h1, h2, h3⟩, A, B, n, W, hA => by
    have e0 : neg1 (2 * szF (.cons l k r)) = -1 :: (neg1 (2 * szF k) ++ (-1 :: neg1 (2 * szF r))) := by
      rw [show 2 * szF (.cons l k r) = (2 * szF k + (2 * szF r + 1)) + 1 from by simp only [szF]; omega, neg1_succ, neg1_add, neg1_succ]
    have e1 : mstep (n, A ++ (neg1 (2 * szF (.cons l k r)) ++ B), W) l = (n + 1, (A ++ [-1]) ++ (neg1 (2 * szF k) ++ (-1 :: (neg1 (2 * szF r) ++ B))), n :: W) := by
      show (if 0 < l then _ else _) = _
      rw [if_pos (by omega), e0]
      simp
    have e2 : mstep (n + 1 + 2 * szF k, (A ++ [-1]) ++ (partF (n + 1) k ++ (-1 :: (neg1 (2 * szF r) ++ B))), n :: W) 0 = (n + 2 + 2 * szF k, (A ++ ((n + 1 + 2 * szF k : Nat) : Int) :: (partF (n + 1) k ++ [(n : Int)])) ++ (neg1 (2 * szF r) ++ B), W) := by
      rw [mstep0, show (A ++ [-1]) ++ (partF (n + 1) k ++ (-1 :: (neg1 (2 * szF r) ++ B))) = A ++ -1 :: (partF (n + 1) k ++ (-1 :: (neg1 (2 * szF r) ++ B))) from by simp, set_mid hA,
        show A ++ ((n + 1 + 2 * szF k : Nat) : Int) :: (partF (n + 1) k ++ (-1 :: (neg1 (2 * szF r) ++ B))) = (A ++ ((n + 1 + 2 * szF k : Nat) : Int) :: partF (n + 1) k) ++ -1 :: (neg1 (2 * szF r) ++ B) from by simp,
        set_mid (by rw [List.length_append, List.length_cons, partF_len, hA]; omega)]
      simp only [List.append_assoc, List.cons_append, List.nil_append]
      congr 1
      omega
    simp only [rowF, List.foldl_cons, List.foldl_append]
    rw [e1, mrun_row k h2 (A ++ [-1]) _ (n + 1) (n :: W) (by rw [List.length_append, hA]; rfl), e2, mrun_row r h3 _ B (n + 2 + 2 * szF k) W (by rw [List.length_append, List.length_cons, List.length_append, partF_len, hA]; simp; omega)]
    simp only [partF, szF, List.append_assoc, List.cons_append, List.nil_append]
    congr 1
    omega
theorem mrun_all (f : Fo) (h : okF f) : (rowF f).foldl mstep (0, neg1 (rowF f).length, []) = (2 * szF f, partF 0 f, []) := by
  have := mrun_row f h [] [] 0 [] rfl
  simp only [List.nil_append, List.append_nil, Nat.zero_add] at this
  rw [rowF_len]
  exact this
def cstep : List Int × Int → Int → List Int × Int
  | (N, c), x => (N ++ [c], if 0 < x then c + 1 else c)
theorem crun_row : ∀ (f : Fo), okF f → ∀ (N : List Int) (s : Nat), (rowF f).foldl cstep (N, (s : Int)) = (N ++ numF s f, ((s + szF f : Nat) : Int))
  | .nil, _, N, s => by simp [rowF, numF, szF]
  | .cons l k r, ⟨h1, h2, h3⟩, N, s => by
    have e1 : cstep (N, (s : Int)) l = (N ++ [(s : Int)], ((s + 1 : Nat) : Int)) := by
      show (N ++ [(s : Int)], if 0 < l then (s : Int) + 1 else (s : Int)) = _
      rw [if_pos (by omega)]
      rfl
    have e2 : ∀ M : List Int, cstep (M, ((s + 1 + szF k : Nat) : Int)) 0 = (M ++ [((s + 1 + szF k : Nat) : Int)], ((s + 1 + szF k : Nat) : Int)) := fun M => rfl
    simp only [rowF, List.foldl_cons, List.foldl_append]
    rw [e1, crun_row k h2, e2, crun_row r h3]
    simp only [numF, szF, List.append_assoc, List.cons_append, List.nil_append]
    congr 2
    omega
/-- the triples, place by place -/
def onN (R N : List Int) (q : Nat) : Int := if 0 < R.getD q 0 then N.getD q 0 else -1
def triG (R N Pt : List Int) (p : Nat) : Option (Int × Int × Int) := if 0 < R.getD p 0 then some (R.getD p 0, onN R N (p + 1), onN R N ((Pt.getD p 0).toNat + 1)) else none
theorem getD_mid {A B : List Int} {x d : Int} {n : Nat} (h : A.length = n) : (A ++ x :: B).getD n d = x := by
  subst h
  rw [List.getD_eq_getElem?_getD, List.getElem?_append_right (Nat.le_refl _), Nat.sub_self]
  rfl
def noPos (B : List Int) : Prop := ¬ 0 < B.getD 0 0
theorem getD_at {A B : List Int} {d : Int} {n : Nat} (h : A.length = n) : (A ++ B).getD n d = B.getD 0 d := by
  subst h
  rw [List.getD_eq_getElem?_getD, List.getElem?_append_right (Nat.le_refl _), Nat.sub_self, List.getD_eq_getElem?_getD]
theorem onN_hd (f : Fo) (hf : okF f) (A B NA NB : List Int) (n s : Nat) (hA : A.length = n) (hN : NA.length = n) (hB : noPos B) : onN (A ++ (rowF f ++ B)) (NA ++ (numF s f ++ NB)) n = hdN s f := by
  unfold onN
  rw [getD_at hA, getD_at hN]
  cases f with
  | nil =>
    show (if 0 < B.getD 0 0 then _ else _) = _
    rw [if_neg hB]
    rfl
  | cons l k r =>
    obtain ⟨h1, _⟩ := hf
    show (if 0 < l then (s : Int) else -1) = (s : Int)
    rw [if_pos (by omega)]
theorem tri_seg : ∀ (f : Fo), okF f → ∀ (A B NA NB PA PB : List Int) (n s : Nat), A.length = n → NA.length = n → PA.length = n → noPos B →
    (List.range' n (2 * szF f)).filterMap (triG (A ++ (rowF f ++ B)) (NA ++ (numF s f ++ NB)) (PA ++ (partF n f ++ PB))) = triF s f
  | .nil, _, A, B, NA, NB, PA, PB, n, s, _, _, _, _ => rfl
  | .cons l k r, ⟨h1, h2, h3⟩, A, B, NA, NB, PA, PB, n, s, hA, hN, hP, hB => by
    have er : List.range' n (2 * szF (.cons l k r)) = n :: (List.range' (n + 1) (2 * szF k) ++ (n + 1 + 2 * szF k) :: List.range' (n + 2 + 2 * szF k) (2 * szF r)) := by
      rw [show 2 * szF (.cons l k r) = (2 * szF k + (2 * szF r + 1)) + 1 from by simp only [szF]; omega, List.range'_succ, ← List.range'_append_1, List.range'_succ]
      congr 3
      congr 1
      omega
    have eR : A ++ (rowF (.cons l k r) ++ B) = A ++ l :: (rowF k ++ 0 :: (rowF r ++ B)) := by simp [rowF]
    have eN : NA ++ (numF s (.cons l k r) ++ NB) = NA ++ (s : Int) :: (numF (s + 1) k ++ ((s + 1 + szF k : Nat) : Int) :: (numF (s + 1 + szF k) r ++ NB)) := by simp [numF]
    have eP : PA ++ (partF n (.cons l k r) ++ PB) = PA ++ ((n + 1 + 2 * szF k : Nat) : Int) :: (partF (n + 1) k ++ (n : Int) :: (partF (n + 2 + 2 * szF k) r ++ PB)) := by simp [partF]
    rw [er, eR, eN, eP, List.filterMap_cons, List.filterMap_append, List.filterMap_cons]
    -- the kids' part
    have fR : A ++ l :: (rowF k ++ 0 :: (rowF r ++ B)) = (A ++ [l]) ++ (rowF k ++ 0 :: (rowF r ++ B)) := by simp
    have fN : NA ++ (s : Int) :: (numF (s + 1) k ++ ((s + 1 + szF k : Nat) : Int) :: (numF (s + 1 + szF k) r ++ NB)) = (NA ++ [(s : Int)]) ++ (numF (s + 1) k ++ ((s + 1 + szF k : Nat) : Int) :: (numF (s + 1 + szF k) r ++ NB)) := by simp
    have fP : PA ++ ((n + 1 + 2 * szF k : Nat) : Int) :: (partF (n + 1) k ++ (n : Int) :: (partF (n + 2 + 2 * szF k) r ++ PB)) = (PA ++ [((n + 1 + 2 * szF k : Nat) : Int)]) ++ (partF (n + 1) k ++ (n : Int) :: (partF (n + 2 + 2 * szF k) r ++ PB)) := by simp
    have lA1 : (A ++ [l]).length = n + 1 := by simp [hA]
    have lN1 : (NA ++ [(s : Int)]).length = n + 1 := by simp [hN]
    have lP1 : (PA ++ [((n + 1 + 2 * szF k : Nat) : Int)]).length = n + 1 := by simp [hP]
    have nb1 : noPos (0 :: (rowF r ++ B)) := by unfold noPos; simp
    have ih1 := tri_seg k h2 _ (0 :: (rowF r ++ B)) _ (((s + 1 + szF k : Nat) : Int) :: (numF (s + 1 + szF k) r ++ NB)) _ ((n : Int) :: (partF (n + 2 + 2 * szF k) r ++ PB)) (n + 1) (s + 1) lA1 lN1 lP1 nb1
    rw [← fR, ← fN, ← fP] at ih1
    -- the rest's part
    have gR : A ++ l :: (rowF k ++ 0 :: (rowF r ++ B)) = (A ++ l :: (rowF k ++ [0])) ++ (rowF r ++ B) := by simp
    have gN : NA ++ (s : Int) :: (numF (s + 1) k ++ ((s + 1 + szF k : Nat) : Int) :: (numF (s + 1 + szF k) r ++ NB)) = (NA ++ (s : Int) :: (numF (s + 1) k ++ [((s + 1 + szF k : Nat) : Int)])) ++ (numF (s + 1 + szF k) r ++ NB) := by simp
    have gP : PA ++ ((n + 1 + 2 * szF k : Nat) : Int) :: (partF (n + 1) k ++ (n : Int) :: (partF (n + 2 + 2 * szF k) r ++ PB)) = (PA ++ ((n + 1 + 2 * szF k : Nat) : Int) :: (partF (n + 1) k ++ [(n : Int)])) ++ (partF (n + 2 + 2 * szF k) r ++ PB) := by simp
    have lA2 : (A ++ l :: (rowF k ++ [0])).length = n + 2 + 2 * szF k := by
      simp only [List.length_append, List.length_cons, List.length_nil, rowF_len, hA]
      omega
    have lN2 : (NA ++ (s : Int) :: (numF (s + 1) k ++ [((s + 1 + szF k : Nat) : Int)])).length = n + 2 + 2 * szF k := by
      simp only [List.length_append, List.length_cons, List.length_nil, numF_len, hN]
      omega
    have lP2 : (PA ++ ((n + 1 + 2 * szF k : Nat) : Int) :: (partF (n + 1) k ++ [(n : Int)])).length = n + 2 + 2 * szF k := by
      simp only [List.length_append, List.length_cons, List.length_nil, partF_len, hP]
      omega
    have ih2 := tri_seg r h3 _ B _ NB _ PB (n + 2 + 2 * szF k) (s + 1 + szF k) lA2 lN2 lP2 hB
    rw [← gR, ← gN, ← gP] at ih2
    -- the opening
    have o1 := onN_hd k h2 (A ++ [l]) (0 :: (rowF r ++ B)) (NA ++ [(s : Int)]) (((s + 1 + szF k : Nat) : Int) :: (numF (s + 1 + szF k) r ++ NB)) (n + 1) (s + 1) lA1 lN1 nb1
    rw [← fR, ← fN] at o1
    have o2 := onN_hd r h3 _ B _ NB (n + 2 + 2 * szF k) (s + 1 + szF k) lA2 lN2 hB
    rw [← gR, ← gN] at o2
    have t1 : triG (A ++ l :: (rowF k ++ 0 :: (rowF r ++ B))) (NA ++ (s : Int) :: (numF (s + 1) k ++ ((s + 1 + szF k : Nat) : Int) :: (numF (s + 1 + szF k) r ++ NB))) (PA ++ ((n + 1 + 2 * szF k : Nat) : Int) :: (partF (n + 1) k ++ (n : Int) :: (partF (n + 2 + 2 * szF k) r ++ PB))) n = some (l, hdN (s + 1) k, hdN (s + 1 + szF k) r) := by
      unfold triG
      rw [getD_mid hA, if_pos (by omega), getD_mid hP, o1, Int.toNat_natCast, show n + 1 + 2 * szF k + 1 = n + 2 + 2 * szF k from by omega, o2]
    have t2 : ∀ N P : List Int, triG (A ++ l :: (rowF k ++ 0 :: (rowF r ++ B))) N P (n + 1 + 2 * szF k) = none := fun N P => by
      unfold triG
      rw [show A ++ l :: (rowF k ++ 0 :: (rowF r ++ B)) = (A ++ l :: rowF k) ++ 0 :: (rowF r ++ B) from by simp, getD_mid (by simp only [List.length_append, List.length_cons, rowF_len, hA]; omega), if_neg (by decide)]
    rw [t1, t2, ih1, ih2]
    rfl
theorem tri_all (f : Fo) (h : okF f) : (List.range (rowF f).length).filterMap (triG (rowF f) (numF 0 f) (partF 0 f)) = triF 0 f := by
  have := tri_seg f h [] [] [] [] [] [] 0 0 rfl rfl rfl (by unfold noPos; simp)
  simp only [List.nil_append, List.append_nil] at this
  rw [rowF_len, List.range_eq_range']
  exact this

/-! ### the path over a table: the open nodes, the last one first; the row so far -/
def gtB (up : Int) : Int → Bool := fun x => decide (up < x)
def tstep : Nat × List Int × List Int → Int × Int → Option (Nat × List Int × List Int)
  | (0, R, W), (up, l) => if up = -1 ∧ W = [] then some (1, R ++ [l], [0]) else none
  | (i + 1, R, W), (up, l) => if (W.dropWhile (gtB up)).head? = some up then some (i + 2, R ++ zs (W.takeWhile (gtB up)).length ++ [l], ((i + 1 : Nat) : Int) :: W.dropWhile (gtB up)) else none
theorem tstep_succ (i : Nat) (R W : List Int) (up l : Int) : tstep (i + 1, R, W) (up, l) = if (W.dropWhile (gtB up)).head? = some up then some (i + 2, R ++ zs (W.takeWhile (gtB up)).length ++ [l], ((i + 1 : Nat) : Int) :: W.dropWhile (gtB up)) else none := rfl
theorem drop_gt {up : Int} {W0 : List Int} : ∀ X : List Int, (∀ x ∈ X, up < x) → (X ++ up :: W0).dropWhile (gtB up) = up :: W0
  | [], _ => by
    rw [List.nil_append, List.dropWhile_cons]
    unfold gtB
    simp
  | x :: X, h => by
    have hx := h x (List.mem_cons_self ..)
    rw [List.cons_append, List.dropWhile_cons, if_pos (by unfold gtB; exact decide_eq_true hx)]
    exact drop_gt X fun y hy => h y (List.mem_cons_of_mem _ hy)
theorem take_gt {up : Int} {W0 : List Int} : ∀ X : List Int, (∀ x ∈ X, up < x) → (X ++ up :: W0).takeWhile (gtB up) = X
  | [], _ => by
    rw [List.nil_append, List.takeWhile_cons]
    unfold gtB
    simp
  | x :: X, h => by
    have hx := h x (List.mem_cons_self ..)
    rw [List.cons_append, List.takeWhile_cons, if_pos (by unfold gtB; exact decide_eq_true hx), take_gt X fun y hy => h y (List.mem_cons_of_mem _ hy)]
theorem trun : ∀ (f : Fo) (p : Int) (s : Nat) (R X W0 : List Int), 1 ≤ s → p < s → (∀ x ∈ X, p < x) → ∃ R' X', (tabF p s f).foldlM tstep (s, R, X ++ p :: W0) = some (s + szF f, R', X' ++ p :: W0) ∧ R' ++ zs X'.length = (R ++ zs X.length) ++ rowF f ∧ ∀ x ∈ X', p < x
  | .nil, p, s, R, X, W0, _, _, hX => ⟨R, X, rfl, by simp [rowF], hX⟩
  | .cons l k r, p, s, R, X, W0, hs, hp, hX => by
    obtain ⟨j, rfl⟩ : ∃ j, s = j + 1 := ⟨s - 1, by omega⟩
    have e1 : tstep (j + 1, R, X ++ p :: W0) (p, l) = some (j + 2, R ++ zs X.length ++ [l], [] ++ ((j + 1 : Nat) : Int) :: (p :: W0)) := by
      rw [tstep_succ, drop_gt X hX, take_gt X hX]
      exact if_pos rfl
    obtain ⟨R3, X3, h1, h2, h3⟩ := trun k ((j + 1 : Nat) : Int) (j + 2) (R ++ zs X.length ++ [l]) [] (p :: W0) (by omega) (by omega) (by simp)
    have hX3 : ∀ x ∈ X3 ++ [((j + 1 : Nat) : Int)], p < x := fun x hx => by
      rcases List.mem_append.mp hx with e | e
      · have := h3 x e
        omega
      · rw [List.mem_singleton.mp e]
        exact hp
    obtain ⟨R4, X4, g1, g2, g3⟩ := trun r p (j + 2 + szF k) R3 (X3 ++ [((j + 1 : Nat) : Int)]) W0 (by omega) (by omega) hX3
    refine ⟨R4, X4, ?_, ?_, g3⟩
    · simp only [tabF, List.foldlM_cons, List.foldlM_append]
      rw [e1]
      simp only [Option.bind_eq_bind, Option.bind_some]
      have h1' : List.foldlM tstep (j + 2, R ++ zs X.length ++ [l], [] ++ ((j + 1 : Nat) : Int) :: (p :: W0)) (tabF ((j + 1 : Nat) : Int) (j + 1 + 1) k) = some (j + 2 + szF k, R3, (X3 ++ [((j + 1 : Nat) : Int)]) ++ p :: W0) := by
        have e6 : (X3 ++ [((j + 1 : Nat) : Int)]) ++ p :: W0 = X3 ++ ((j + 1 : Nat) : Int) :: p :: W0 := by simp
        rw [e6]
        exact h1
      rw [h1']
      simp only [Option.bind_some]
      have e5 : j + 1 + 1 + szF k = j + 2 + szF k := by omega
      rw [e5, g1]
      simp only [szF]
      congr 2
      omega
    · rw [g2, List.length_append, List.length_singleton, zs_snoc, ← List.append_assoc, h2]
      simp [rowF, zs]
theorem trun_all (l : Int) (k : Fo) : ∃ R X, (tabF (-1) 0 (.cons l k .nil)).foldlM tstep (0, [], []) = some (1 + szF k, R, X) ∧ R ++ zs X.length = rowF (.cons l k .nil) := by
  obtain ⟨R, X, h1, h2, h3⟩ := trun k 0 1 [l] [] [] (Nat.le_refl _) (by decide) (by simp)
  refine ⟨R, X ++ [0], ?_, ?_⟩
  · simp only [tabF, List.foldlM_cons, List.append_nil]
    show List.foldlM tstep (1, [l], [0]) (tabF 0 1 k) = _
    exact h1
  · rw [List.length_append, List.length_singleton, zs_snoc, ← List.append_assoc, h2]
    simp [rowF, zs]
/-- entries of a table: the upper node's number is smaller -/
theorem tabF_up : ∀ (f : Fo) (p : Int) (s : Nat), p < s → ∀ (j : Nat) (q : Int × Int), (tabF p s f)[j]? = some q → p ≤ q.1 ∧ q.1 < ((s + j : Nat) : Int)
  | .nil, _, _, _, j, q, h => by simp [tabF] at h
  | .cons l k r, p, s, hp, j, q, h => by
    cases j with
    | zero =>
      have e : (p, l) = q := by simpa [tabF] using h
      rw [← e]
      exact ⟨Int.le_refl _, hp⟩
    | succ j =>
      simp only [tabF, List.getElem?_cons_succ] at h
      rw [List.getElem?_append] at h
      split at h
      · have := tabF_up k (s : Nat) (s + 1) (by omega) j q h
        omega
      · rename_i hj
        have := tabF_up r p (s + 1 + szF k) (by omega) _ q h
        rw [tabF_len] at hj this
        omega
theorem tabF_lab : ∀ (f : Fo) (p : Int) (s : Nat), okF f → ∀ q ∈ tabF p s f, 1 ≤ q.2 ∧ q.2 ≤ 9
  | .nil, _, _, _, q, h => by simp [tabF] at h
  | .cons l k r, p, s, ⟨h1, h2, h3⟩, q, h => by
    simp only [tabF, List.mem_cons, List.mem_append] at h
    rcases h with e | e | e
    · rw [e]
      exact h1
    · exact tabF_lab k _ _ h2 q e
    · exact tabF_lab r _ _ h3 q e

section
variable {P : Program} {w : World} {K : PySem.W.Frag} {mg : Str → Option Value} {base : Heap}
def sp_law_draw : Sp := fun vs H Q _ => ∃ (p : Addr) (ns : List Int) (b : Int), vs = [.ref p, .int b] ∧ H p = some (iLs ns) ∧ PoolOk ns ∧ 0 < b ∧ b < 1000000 ∧
  ∀ (d : Int) (ms : List Int) (H' : Hp), 0 ≤ d → d < b → PoolOk ms → But p H H' → H' p = some (iLs ms) → Q (.int d) H'
theorem ok_law_draw (T : Tx K mg) : FnOk P w K mg base CX0 1 T.d_law_draw.a T.d_law_draw.fd P_law_draw sp_law_draw := by
  refine T.d_law_draw.F.ok sc_law_draw (fun vs H Q E h => ?_) (fun cdv A outer s H vs Q E hr h => ?_)
  · obtain ⟨_, _, _, rfl, _⟩ := h
    rfl
  · obtain ⟨p, ns, b, rfl, hp, hok, hb0, hb1, k⟩ := h
    refine ⟨_, ((pss_cons (ps_if (pt_cmpR (r := rEqD K) (op_eqD hr.units) (pv 0) (pe_lst pa_nil) (nomark _)) 
    (pss_one (ps_ret pe_int)) pss_nil)
  (pss_cons (ps_set (i := 2) sc_law_draw.nd rfl (by first | exact Or.inl rfl | exact Or.inr rfl) (pe_op op_modN (pe_callTy k_int (by rfl) T.b_int (by decide +kernel) (pa_cons (pe_ix (r := rIxL K) ix_list (pv 0) pe_int (fun _ _ => rfl)) pa_nil)) (pv 1)))
  (pss_cons (ps_set (i := 3) sc_law_draw.nd rfl (by first | exact Or.inl rfl | exact Or.inr rfl) (pe_op op_fdivN (pe_callTy k_int (by rfl) T.b_int (by decide +kernel) (pa_cons (pe_ix (r := rIxL K) ix_list (pv 0) pe_int (fun _ _ => rfl)) pa_nil)) (pv 1)))
  (pss_cons (ps_if (pt_cmpR op_gt (pv 3) pe_int (nomark _)) 
    (pss_one (ps_asg (pv 3) (pg_sub (pv 0) pe_int set_list))) 
    (pss_one (ps_expr (pe_bm PySem.F.plainAttrs_list PySem.F.slot_list_pop PySem.F.type_list_pop mt_popAt (pv 0) (pa_cons pe_int pa_nil)))))
  (pss_one (ps_ret (pv 2)))))))), ?_⟩
    try simp only [nxK, cxK]
    walk_at "rd"
    intro q hq
    walk_at "rd"
    refine r_eqD (dp_ints (ns := ns) (by walk_at "sq")) (dp_ints (ns := []) (by walk_at "sq")) (shapedI _) (shapedI _) ?_
    rw [eqvI]
    walk_at "rd"
    refine ifd (fun e => ?_) (fun e => ?_)
    · subst e
      walk_at "rd"
      exact k 0 [] _ (by omega) (by omega) hok (But.same (sm_up hq)) ((sm_up hq) _ _ hp)
    · obtain ⟨n, r, rfl⟩ : ∃ n r, ns = n :: r := by
        cases ns with
        | nil => exact absurd rfl e
        | cons n r => exact ⟨n, r, rfl⟩
      have hn0 : 0 ≤ n := hok.1 n (List.mem_cons_self ..)
      have hp' : (upd H q (HO.lst [])) p = some (.lst (V.int n :: r.map V.int)) := (sm_up hq) _ _ hp
      have hs : SqL K (upd H q (HO.lst [])) p ((n :: r).map V.int) := SqL.of hp'
      walk_at "rd"
      refine r_ixI hs (by omega) (by simp) fun m em => ?_
      obtain rfl : n = m := by simpa using em
      walk_at "rd"
      refine r_I (by omega) ?_
      walk_at "rd"
      refine r_ixI hs (by omega) (by simp) fun m em => ?_
      obtain rfl : n = m := by simpa using em
      walk_at "rd"
      refine r_I ⟨by omega, by omega⟩ ?_
      have hf := fmod_in (n := n) hb0
      have hd := fdiv_nn hn0 hb0
      walk_at "rd"
      refine ifd (fun e => ?_) (fun e => ?_)
      · walk_at "rd"
        refine k _ (n.fdiv b :: r) _ hf.1 hf.2 ⟨fun m hm => ?_, by simpa using hok.2⟩ (But.trans (But.same (sm_up hq)) But.upd) ?_
        · rcases List.mem_cons.mp hm with e | e
          · rw [e]
            exact hd
          · exact hok.1 m (List.mem_cons_of_mem _ e)
        · rw [upd_same]
          rfl
      · walk_at "rd"
        refine k _ r _ hf.1 hf.2 ⟨fun m hm => hok.1 m (List.mem_cons_of_mem _ hm), by have := hok.2; simp at this; omega⟩ (But.trans (But.same (sm_up hq)) But.upd) upd_same
end

section
variable {P : Program} {w : World} {K : PySem.W.Frag} {mg : Str → Option Value} {base : Heap}
def sp_law_pool (K : PySem.W.Frag) : Sp := fun vs H Q _ => ∃ (a : Addr) (ns : List Int), vs = [.ref a] ∧ SqL K H a (ns.map V.int) ∧ ns.length ≤ 63 ∧
  ∀ (p : Addr) (ms : List Int) (H' : Hp), PoolOk ms → Same H H' → H p = none → H' p = some (iLs ms) → Q (.ref p) H'
theorem ok_law_pool (T : Tx K mg) : FnOk P w K mg base CX0 1 T.d_law_pool.a T.d_law_pool.fd P_law_pool (sp_law_pool K) := by
  refine T.d_law_pool.F.ok sc_law_pool (fun vs H Q E h => ?_) (fun cdv A outer s H vs Q E hr h => ?_)
  · obtain ⟨_, _, rfl, _⟩ := h
    rfl
  · obtain ⟨a, ns, rfl, hs, hl, k⟩ := h
    refine ⟨_, ((pss_cons (ps_setLc (i := 2) (own := [("cell", 1)]) (g := gName 1) rfl sc_law_pool.nd rfl rfl (sw_true rfl rfl rfl (by decide +kernel)) (pi_list (pe_slice (r := rSlL K) sl_list (pv 0) po_none (po_some pe_int))) (blkOk_by (own := [("cell", 1)]) (N := N_law_pool) (sc := defScope s_law_pool) (by decide +kernel)) (fun _ _ _ _ _ => (pg_name (i := 1) sc_law_pool.nd rfl (by first | exact Or.inl rfl | exact Or.inr rfl))) (fun _ _ _ _ _ => pts_nil) (fun _ _ _ _ _ => (pe_op op_modN (pe_callTy k_int (by rfl) T.b_int (by decide +kernel) (pa_cons (pv 1) pa_nil)) (pe_op op_pow pe_int pe_int))))
  (pss_cons (ps_set (i := 3) sc_law_pool.nd rfl (by first | exact Or.inl rfl | exact Or.inr rfl) (pe_op op_modN (pe_callB (r := rSum K) (cr_sum rfl) (by rfl) T.b_sum (by decide +kernel) (pa_cons (pv 2) pa_nil)) pe_int))
  (pss_one (ps_ret (pe_op op_cat (pv 2) (pe_lst (pa_cons (pe_op op_mul pe_int (pe_op op_add pe_int (pv 3))) pa_nil)))))))), ?_⟩
    try simp only [nxK, cxK]
    obtain ⟨xs, ex, hxs⟩ := cutI ns none (some 63)
    walk_at "rd"
    intro q hq
    rw [ex]
    have h1 : SqL K (upd H q (HO.lst (xs.map V.int))) q (xs.map V.int) := SqL.of upd_same
    refine ⟨_, rfl, ⟨_, h1⟩, lcJ (walk_list (xs := xs.map V.int)) (fun H' s => s.seq h1) ⟨by rw [List.length_map]; omega, fun D hD => ⟨fun i acc _ => ∃ ms : List Int, acc = ms.map V.int ∧ ∀ m ∈ ms, 0 ≤ m, ⟨[], rfl, by simp⟩, ?_, ?_⟩⟩⟩
    · rintro i x acc H2 H3 hi ⟨rfl, hx⟩ s1 hD' hl' ⟨ms, rfl, hm⟩
      obtain ⟨n, hn, rfl⟩ := map_get hx
      walk_at "rd"
      refine iteT ?_
      walk_at "rd"
      refine r_I ⟨by omega, by omega, by decide⟩ ?_
      walk_at "rd"
      refine r_I (by decide) ?_
      rw [List.length_map] at hi
      refine lcIn s1 hD hD' hl' (by omega) ⟨ms ++ [_], by rw [List.map_append]; rfl, fun m hm' => ?_⟩
      rcases List.mem_append.mp hm' with e | e
      · exact hm m e
      · rw [List.mem_singleton.mp e]
        exact (fmod_in (by decide)).1
    · rintro acc H2 s1 hD' hl' ⟨ms, rfl, hm⟩
      rw [List.length_map, List.length_map] at hl'
      walk_at "rd"
      refine r_I (by decide) ?_
      have h2 := fmod_in (n := ms.sum) (b := 1000003) (by decide)
      walk_at "rd"
      refine r_mul (.inr ⟨by omega, by omega⟩) ?_
      walk_at "rd"
      intro p hp
      walk_at "rd"
      intro p2 hp2
      refine k p2 (ms ++ [31415926535897932384626433832795028841971693993751058209749445 * (1 + ms.sum.fmod 1000003)]) _ ⟨fun m hm' => ?_, by rw [List.length_append, List.length_singleton]; omega⟩ ?_ ?_ ?_
      · rcases List.mem_append.mp hm' with e | e
        · exact hm m e
        · rw [List.mem_singleton.mp e]
          exact Int.mul_nonneg (by decide) (by omega)
      · walk_at "sm"
      · walk_at "fr"
      · rw [upd_same, iLs, List.map_append]
        rfl
end

section
variable {P : Program} {w : World} {K : PySem.W.Frag} {mg : Str → Option Value} {base : Heap}
theorem ne_fr {H : Hp} {p q : Addr} {o : HO} (h : H p = some o) (h' : H q = none) : q ≠ p := (ne_of_none h h').symm
def sp_law_tree : Sp := fun vs H Q _ => ∃ (p : Addr) (ns : List Int) (m kinds : Int), vs = [.ref p, .int m, .int kinds] ∧ H p = some (iLs ns) ∧ PoolOk ns ∧ 1 ≤ m ∧ m ≤ 1000 ∧ 1 ≤ kinds ∧ kinds ≤ 9 ∧
  ∀ (a : Addr) (ms : List Int) (l : Int) (k : Fo) (H' : Hp), okF (.cons l k .nil) → (szF (.cons l k .nil) : Int) = m → But p H H' → H' p = some (iLs ms) → PoolOk ms → a ≠ p → H a = none → H' a = some (iLs (rowF (.cons l k .nil))) → Q (.ref a) H'
theorem ok_law_tree (T : Tx K mg) : FnOk P w K mg base CX0 2 T.d_law_tree.a T.d_law_tree.fd P_law_tree sp_law_tree := by
  refine T.d_law_tree.F.ok sc_law_tree (fun vs H Q E h => ?_) (fun cdv A outer s H vs Q E hr h => ?_)
  · obtain ⟨_, _, _, _, rfl, _⟩ := h
    rfl
  · obtain ⟨p, ns, m, kinds, rfl, hp, hok, hm1, hm2, hk1, hk2, k⟩ := h
    refine ⟨_, ((pss_cons (ps_set (i := 3) sc_law_tree.nd rfl (by first | exact Or.inl rfl | exact Or.inr rfl) (pe_lst (pa_cons (pe_op op_add pe_int (pe_call (ok_law_draw T) (hr.mono (by decide)) rfl T.d_law_draw.g T.d_law_draw.F.kp T.d_law_draw.b .nil pass0 (pa_cons (pv 0) (pa_cons (pv 2) pa_nil)))) pa_nil)))
  (pss_cons (ps_set (i := 4) sc_law_tree.nd rfl (by first | exact Or.inl rfl | exact Or.inr rfl) pe_int)
  (pss_cons (ps_for PassesOwn.never rfl (pi_range1 rfl T.b_range (pa_cons (pe_op op_sub (pv 1) pe_int) pa_nil)) (pg_name (i := 5) sc_law_tree.nd rfl (by first | exact Or.inl rfl | exact Or.inr rfl)) 
    (pss_cons (ps_set (i := 6) sc_law_tree.nd rfl (by first | exact Or.inl rfl | exact Or.inr rfl) (pe_call (ok_law_draw T) (hr.mono (by decide)) rfl T.d_law_draw.g T.d_law_draw.F.kp T.d_law_draw.b .nil pass0 (pa_cons (pv 0) (pa_cons (pv 4) pa_nil))))
    (pss_cons (ps_set (i := 3) sc_law_tree.nd rfl (by first | exact Or.inl rfl | exact Or.inr rfl) (pe_op op_cat (pe_op op_cat (pv 3) (pe_op op_rep (pe_lst (pa_cons pe_int pa_nil)) (pv 6))) (pe_lst (pa_cons (pe_op op_add pe_int (pe_call (ok_law_draw T) (hr.mono (by decide)) rfl T.d_law_draw.g T.d_law_draw.F.kp T.d_law_draw.b .nil pass0 (pa_cons (pv 0) (pa_cons (pv 2) pa_nil)))) pa_nil))))
    (pss_one (ps_set (i := 4) sc_law_tree.nd rfl (by first | exact Or.inl rfl | exact Or.inr rfl) (pe_op op_add (pe_op op_sub (pv 4) (pv 6)) pe_int))))))
  (pss_one (ps_ret (pe_op op_cat (pv 3) (pe_op op_rep (pe_lst (pa_cons pe_int pa_nil)) (pv 4))))))))), ?_⟩
    try simp only [nxK, cxK]
    walk_at "rd"
    refine ⟨p, ns, kinds, rfl, hp, hok, by omega, by omega, fun d ms H2 d0 d1 hok2 b2 hp2 => ?_⟩
    walk_at "rd"
    intro a ha
    have nap := ne_fr hp2 ha
    walk_at "rd"
    refine ⟨m - 1, rfl, by omega, by omega, forJ walkR ⟨fun i σ H' => ∃ (a : Addr) (rs : List Int) (deep : Nat) (ms : List Int) (l : Int) (k : Fo) (v5 v6 : Option V),
      σ = [some (.ref p), some (.int m), some (.int kinds), some (.ref a), some (.int (deep : Nat)), v5, v6] ∧ H' a = some (iLs rs) ∧ a ≠ p ∧ H a = none ∧ H' p = some (iLs ms) ∧ PoolOk ms ∧ But p H H' ∧ okF (.cons l k .nil) ∧
      szF (.cons l k .nil) = i + 1 ∧ rowF (.cons l k .nil) = rs ++ zs deep ∧ 1 ≤ deep, ?_, fun _ _ _ _ _ => trivial, ?_, ?_⟩⟩
    · exact ⟨a, [1 + d], 1, ms, 1 + d, .nil, none, none, rfl, upd_same, nap, by walk_at "fr", by rw [upd_ne nap.symm]; exact hp2, hok2, by walk_at "bt", ⟨by omega, trivial, trivial⟩, rfl, rfl, Nat.le_refl _⟩
    · rintro i x σ H3 H4 hi ⟨a3, rs, deep, ms3, l, kk, v5, v6, rfl, ha3, nap3, fr3, hp3, ok3, b3, okf, sz, row, hd⟩ ⟨rfl, rfl⟩
      have hlen := rowF_len (.cons l kk .nil)
      rw [row, List.length_append, zs_len, sz] at hlen
      have hi' : (i : Int) < m - 1 := by omega
      walk_at "rd"
      refine ⟨p, ms3, _, rfl, hp3, ok3, by omega, by omega, fun u ms4 H5 u0 u1 ok4 b4 hp4 => ?_⟩
      have ha5 : H5 a3 = some (iLs rs) := hbut b4 nap3 ha3
      unfold iLs at ha5
      walk_at "rd"
      intro q1 hq1
      have n1 := ne_fr hp4 hq1
      walk_at "rd"
      intro q2 hq2
      have n2 : q2 ≠ p := ne_fr (by walk_at "hg") hq2
      walk_at "rd"
      intro q3 hq3
      have n3 : q3 ≠ p := ne_fr (by walk_at "hg") hq3
      walk_at "rd"
      refine ⟨p, ms4, kinds, rfl, by walk_at "hg", ok4, by omega, by omega, fun d' ms6 H6 e0 e1 ok6 b6 hp6 => ?_⟩
      walk_at "rd"
      intro q4 hq4
      have n4 : q4 ≠ p := ne_fr hp6 hq4
      have h3 : H6 q3 = some (.lst (rs.map V.int ++ List.replicate u.toNat (V.int 0))) := hbut b6 n3 upd_same
      walk_at "rd"
      intro q5 hq5
      have n5 : q5 ≠ p := ne_fr (by walk_at "hg") hq5
      walk_at "rd"
      obtain ⟨f', g1, g2, g3, g4⟩ := ins (x := 1 + d') ⟨by omega, by omega⟩ (.cons l kk .nil) okf rs deep u.toNat (by omega) row
      obtain ⟨k', rfl⟩ := g4 l kk rfl (by omega)
      refine ⟨q5, rs ++ zs u.toNat ++ [1 + d'], deep - u.toNat + 1, ms6, l, k', some (.int (i : Int)), some (.int u), ?_, ?_, n5, ?_, by walk_at "hg", ok6, ?_, g1, by omega, ?_, by omega⟩
      · rw [show ((deep - u.toNat + 1 : Nat) : Int) = (deep : Int) - u + 1 by omega]
        rfl
      · rw [upd_same, iLs]
        simp [zs]
      · walk_at "fr"
      · walk_at "bt"
      · rw [g3, zs_snoc_front]
        simp
    · rintro σ H3 ⟨a3, rs, deep, ms3, l, kk, v5, v6, rfl, ha3, nap3, fr3, hp3, ok3, b3, okf, sz, row, hd⟩
      unfold iLs at ha3
      have hlen := rowF_len (.cons l kk .nil)
      rw [row, List.length_append, zs_len, sz] at hlen
      walk_at "rd"
      intro q1 hq1
      have n1 := ne_fr hp3 hq1
      walk_at "rd"
      intro q2 hq2
      have n2 : q2 ≠ p := ne_fr (by walk_at "hg") hq2
      walk_at "rd"
      intro q3 hq3
      have n3 : q3 ≠ p := ne_fr (by walk_at "hg") hq3
      refine k q3 ms3 l kk _ okf (by omega) (by walk_at "bt") (by walk_at "hg") ok3 n3 (by walk_at "fr") ?_
      rw [upd_same, row, iLs]
      simp [zs]
end

/-! ### what a call has made anew -/
def nw (H H' : Hp) : Hp := fun b => if (H b).isNone = true then H' b else none
theorem nw_at {H H' : Hp} {b : Addr} (h : H b = none) : nw H H' b = H' b := if_pos (by rw [h]; rfl)
theorem nw_le {H H' : Hp} : Same (nw H H') H' := fun b o e => by
  unfold nw at e
  split at e
  · exact e
  · cases e
theorem nw_wo {H H' : Hp} {p : Addr} {o : HO} (h : H p = some o) : Same (nw H H') (wo H' p) := fun b u e => by
  have ne : b ≠ p := by
    rintro rfl
    unfold nw at e
    rw [h] at e
    simp at e
  rw [wo_ne ne]
  exact nw_le b u e
theorem nw_up {H H4 H5 : Hp} (s : Same H4 H5) : Same (nw H H4) (nw H H5) := fun b o e => by
  unfold nw at e ⊢
  split at e
  · rw [if_pos (by assumption)]
    exact s b o e
  · cases e
theorem ng_up {H H4 H5 : Hp} {g : Addr} (s : Same H4 H5) : Same (wo (nw H H4) g) (wo (nw H H5) g) := wo_mono (nw_up s)
theorem ng_set {H H5 : Hp} {g : Addr} {o : HO} : wo (nw H (upd H5 g o)) g = wo (nw H H5) g := by
  funext b
  by_cases h : b = g
  · rw [h, wo_at, wo_at]
  · rw [wo_ne h, wo_ne h]
    unfold nw
    rw [upd_ne h]
theorem ng_at {H H5 : Hp} {g t : Addr} (h : H t = none) (ne : t ≠ g) : wo (nw H H5) g t = H5 t := by rw [wo_ne ne, nw_at h]
/-! ### the law's nodes: lists of five numbers, of which the first two are told -/
def NdL (H : Hp) (as : List Addr) (ps : List (Int × Int)) : Prop := as.length = ps.length ∧ ∀ (j : Nat) (a : Addr) (p : Int × Int), as[j]? = some a → ps[j]? = some p → ∃ x y z : Int, H a = some (.lst [.int p.1, .int p.2, .int x, .int y, .int z])
theorem ndl_at {H : Hp} {as : List Addr} {ps : List (Int × Int)} (h : NdL H as ps) {j : Nat} (hj : j < ps.length) : ∃ a x y z, as[j]? = some a ∧ H a = some (.lst [.int ps[j].1, .int ps[j].2, .int x, .int y, .int z]) := by
  have h1 : j < as.length := by rw [h.1]; exact hj
  obtain ⟨x, y, z, e⟩ := h.2 j as[j] ps[j] (List.getElem?_eq_getElem h1) (List.getElem?_eq_getElem hj)
  exact ⟨as[j], x, y, z, List.getElem?_eq_getElem h1, e⟩
theorem ndl_mem {H : Hp} {as : List Addr} {ps : List (Int × Int)} (h : NdL H as ps) {a : Addr} (ha : a ∈ as) : ∃ u l x y z : Int, H a = some (.lst [.int u, .int l, .int x, .int y, .int z]) := by
  obtain ⟨j, hj, rfl⟩ := List.mem_iff_getElem.mp ha
  have hj2 : j < ps.length := by rw [← h.1]; exact hj
  obtain ⟨x, y, z, e⟩ := h.2 j as[j] ps[j] (List.getElem?_eq_getElem hj) (List.getElem?_eq_getElem hj2)
  exact ⟨_, _, x, y, z, e⟩
theorem ndl_set {H : Hp} {as : List Addr} {ps : List (Int × Int)} {a : Addr} {u l x y z x' y' z' : Int} (h : NdL H as ps) (ha : H a = some (.lst [.int u, .int l, .int x, .int y, .int z])) : NdL (upd H a (.lst [.int u, .int l, .int x', .int y', .int z'])) as ps := by
  refine ⟨h.1, fun j b p hb hp => ?_⟩
  obtain ⟨x1, y1, z1, e⟩ := h.2 j b p hb hp
  by_cases hab : b = a
  · subst hab
    rw [ha] at e
    injection e with e
    injection e with e
    injection e with e1 e
    injection e with e2 e
    injection e1 with e1
    injection e2 with e2
    exact ⟨x', y', z', by rw [upd_same, e1, e2]⟩
  · exact ⟨x1, y1, z1, by rw [upd_ne hab]; exact e⟩
theorem ndl_but {H : Hp} {as : List Addr} {ps : List (Int × Int)} {b : Addr} {o : HO} (h : NdL H as ps) (hb : b ∉ as) : NdL (upd H b o) as ps := by
  refine ⟨h.1, fun j a p ha hp => ?_⟩
  obtain ⟨x1, y1, z1, e⟩ := h.2 j a p ha hp
  refine ⟨x1, y1, z1, ?_⟩
  rw [upd_ne (fun q => hb (by rw [← q]; exact List.mem_of_getElem? ha))]
  exact e
theorem ndl_up {H H' : Hp} {as : List Addr} {ps : List (Int × Int)} (h : NdL H as ps) (s : Same H H') : NdL H' as ps := ⟨h.1, fun j a p ha hp => let ⟨x, y, z, e⟩ := h.2 j a p ha hp; ⟨x, y, z, s _ _ e⟩⟩
theorem ndl_push {H : Hp} {as : List Addr} {ps : List (Int × Int)} {a : Addr} {p : Int × Int} {x y z : Int} (h : NdL H as ps) (ha : H a = some (.lst [.int p.1, .int p.2, .int x, .int y, .int z])) : NdL H (as ++ [a]) (ps ++ [p]) := by
  refine ⟨by simp [h.1], fun j b q hb hq => ?_⟩
  rw [List.getElem?_append] at hb hq
  by_cases hj : j < as.length
  · rw [if_pos hj] at hb
    rw [if_pos (by rw [← h.1]; exact hj)] at hq
    exact h.2 j b q hb hq
  · rw [if_neg hj] at hb
    rw [if_neg (by rw [← h.1]; exact hj)] at hq
    rw [← h.1] at hq
    cases e : j - as.length with
    | zero =>
      rw [e] at hb hq
      simp at hb hq
      subst hb
      subst hq
      exact ⟨x, y, z, ha⟩
    | succ n =>
      rw [e] at hb
      simp at hb
theorem ndl_nil {H : Hp} : NdL H [] [] := ⟨rfl, fun j a p h => by simp at h⟩
theorem ndl_not {H H2 : Hp} {as bs : List Addr} {ps : List (Int × Int)} {t : Addr} (s : Same H H2) (h : NdL H2 bs ps) (ht : H t = some (.lst (as.map V.ref))) : t ∉ bs := by
  intro q
  obtain ⟨u, l, x, y, z, e⟩ := ndl_mem h q
  rw [s _ _ ht] at e
  cases as with
  | nil => cases e
  | cons a r => cases e
/-- as data -/
def NodesAt (K : PySem.W.Frag) (H : Hp) (v : V) (ps : List (Int × Int)) : Prop :=
  ∃ ds, Dp K H v (.list ds) ∧ ds.length = ps.length ∧ ∀ (j : Nat) (p : Int × Int), ps[j]? = some p → ∃ x y z : Int, ds[j]? = some (dI [p.1, p.2, x, y, z])
theorem NodesAt.up {K : PySem.W.Frag} {H H' : Hp} {v : V} {ps : List (Int × Int)} (h : NodesAt K H v ps) (s : Same H H') : NodesAt K H' v ps := let ⟨ds, h1, h2⟩ := h; ⟨ds, dp_up s h1, h2⟩
theorem ndl_dps {K : PySem.W.Frag} {H : Hp} : ∀ {as : List Addr} {ps : List (Int × Int)}, NdL H as ps → ∃ ds, DpAll K H (as.map V.ref) ds ∧ ds.length = ps.length ∧ ∀ (j : Nat) (p : Int × Int), ps[j]? = some p → ∃ x y z : Int, ds[j]? = some (dI [p.1, p.2, x, y, z])
  | [], ps, h => by
    have e : ps = [] := List.length_eq_zero_iff.mp h.1.symm
    subst e
    exact ⟨[], .nil, rfl, fun j p q => by simp at q⟩
  | a :: as, [], h => by have := h.1; simp at this
  | a :: as, p :: ps, h => by
    have h1 : NdL H as ps := ⟨by have := h.1; simpa using this, fun j b q hb hq => h.2 (j + 1) b q (by simpa using hb) (by simpa using hq)⟩
    obtain ⟨ds, g1, g2, g3⟩ := ndl_dps h1
    obtain ⟨x, y, z, e⟩ := h.2 0 a p rfl rfl
    refine ⟨dI [p.1, p.2, x, y, z] :: ds, .cons (dp_ints (SqL.of e)) g1, by simp [g2], fun j q hq => ?_⟩
    cases j with
    | zero =>
      have e : p = q := by simpa using hq
      subst e
      exact ⟨x, y, z, rfl⟩
    | succ j =>
      obtain ⟨x, y, z, e⟩ := g3 j q (by simpa using hq)
      exact ⟨x, y, z, by simpa using e⟩
theorem ndl_nodes {K : PySem.W.Frag} {H : Hp} {t : Addr} {as : List Addr} {ps : List (Int × Int)} (h : NdL H as ps) (ht : H t = some (.lst (as.map V.ref))) : NodesAt K H (.ref t) ps := by
  obtain ⟨ds, g1, g2, g3⟩ := ndl_dps (K := K) h
  exact ⟨ds, .lst (SqL.of ht) g1, g2, g3⟩
section
variable {P : Program} {w : World} {K : PySem.W.Frag} {mg : Str → Option Value} {base : Heap}
def sp_law_nodes (K : PySem.W.Frag) : Sp := fun vs H Q _ => ∃ (a : Addr) (f : Fo), vs = [.ref a] ∧ SqL K H a ((rowF f).map V.int) ∧ okF f ∧ szF f ≤ 1000 ∧
  ∀ (t : Addr) (H' : Hp), Same H H' → H t = none → NodesAt K (nw H H') (.ref t) (tabF (-1) 0 f) → Q (.ref t) H'
theorem ok_law_nodes (T : Tx K mg) : FnOk P w K mg base CX0 1 T.d_law_nodes.a T.d_law_nodes.fd P_law_nodes (sp_law_nodes K) := by
  refine T.d_law_nodes.F.ok sc_law_nodes (fun vs H Q E h => ?_) (fun cdv A outer s H vs Q E hr h => ?_)
  · obtain ⟨_, _, rfl, _⟩ := h
    rfl
  · obtain ⟨a, f, rfl, hs, okf, hsz, k⟩ := h
    refine ⟨_, ((pss_cons (ps_set (i := 1) sc_law_nodes.nd rfl (by first | exact Or.inl rfl | exact Or.inr rfl) (pe_lst pa_nil))
  (pss_cons (ps_set (i := 2) sc_law_nodes.nd rfl (by first | exact Or.inl rfl | exact Or.inr rfl) (pe_lst (pa_cons (pe_un un_neg pe_int) pa_nil)))
  (pss_cons (ps_set (i := 3) sc_law_nodes.nd rfl (by first | exact Or.inl rfl | exact Or.inr rfl) pe_int)
  (pss_cons (ps_for PassesOwn.never rfl (pi_range1 rfl T.b_range (pa_cons (pe_callB (r := cLen K) k_len (by rfl) T.b_len (by decide +kernel) (pa_cons (pv 0) pa_nil)) pa_nil)) (pg_name (i := 4) sc_law_nodes.nd rfl (by first | exact Or.inl rfl | exact Or.inr rfl)) 
    (pss_one (ps_if (pt_cmpR op_gt (pe_ix (r := rIxL K) ix_list (pv 0) (pv 4) (fun _ _ => rfl)) pe_int (nomark _)) 
      (pss_cons (ps_expr (pe_bm PySem.F.plainAttrs_list PySem.F.slot_list_append PySem.F.type_list_append mt_append (pv 1) (pa_cons (pe_lst (pa_cons (pe_ix (r := rIxL K) ix_list (pv 2) (pe_un un_neg pe_int) (fun _ _ => rfl)) (pa_cons (pe_ix (r := rIxL K) ix_list (pv 0) (pv 4) (fun _ _ => rfl)) (pa_cons (pv 4) (pa_cons (pv 4) (pa_cons pe_int pa_nil)))))) pa_nil)))
      (pss_one (ps_expr (pe_bm PySem.F.plainAttrs_list PySem.F.slot_list_append PySem.F.type_list_append mt_append (pv 2) (pa_cons (pe_op op_sub (pe_callB (r := cLen K) k_len (by rfl) T.b_len (by decide +kernel) (pa_cons (pv 1) pa_nil)) pe_int) pa_nil))))) 
      (pss_cons (ps_set (i := 5) sc_law_nodes.nd rfl (by first | exact Or.inl rfl | exact Or.inr rfl) (pe_bm0 PySem.F.plainAttrs_list PySem.F.slot_list_pop PySem.F.type_list_pop mt_pop (pv 2)))
      (pss_cons (ps_asg (pv 4) (pg_sub (pe_ix (r := rIxL K) ix_list (pv 1) (pv 5) (fun _ _ => rfl)) pe_int set_list))
      (pss_cons (ps_asg (pv 3) (pg_sub (pe_ix (r := rIxL K) ix_list (pv 1) (pv 5) (fun _ _ => rfl)) pe_int set_list))
      (pss_one (ps_set (i := 3) sc_law_nodes.nd rfl (by first | exact Or.inl rfl | exact Or.inr rfl) (pe_op op_add (pv 3) pe_int)))))))))
  (pss_one (ps_ret (pv 1)))))))), ?_⟩
    try simp only [nxK, cxK]
    have hrun := nrun_row f okf [] (-1) []
    have hlen := rowF_len f
    walk_at "rd"
    intro t ht
    walk_at "rd"
    intro pl hpl
    walk_at "rd"
    have htp : pl ≠ t := ne_fr upd_same hpl
    have fpl : H pl = none := by walk_at "fr"
    refine ⟨_, rfl, by simp only [List.length_map]; omega, by simp only [List.length_map]; omega, forJ walkR ⟨fun i σ H' => ∃ (as : List Addr) (ps : List (Int × Int)) (st : List Int) (post : Int) (v4 v5 : Option V),
      σ = [some (.ref a), some (.ref t), some (.ref pl), some (.int post), v4, v5] ∧ ((rowF f).take i).foldlM nstep ([], [-1]) = some (ps, st) ∧ Same H H' ∧ H' t = some (.lst (as.map V.ref)) ∧ H' pl = some (iLs st.reverse) ∧
      NdL H' as ps ∧ (∀ b ∈ as, H b = none ∧ b ≠ pl) ∧ ps.length ≤ i ∧ st.length ≤ i + 1, ?_, fun _ _ _ _ _ => trivial, ?_, ?_⟩⟩
    · exact ⟨[], [], [-1], 0, none, none, rfl, rfl, by walk_at "sm", by rw [upd_ne htp.symm]; exact upd_same, upd_same, ndl_nil, by simp, Nat.le_refl _, Nat.le_refl _⟩
    · rintro i x σ H3 H4 hi ⟨as, ps, st, post, v4, v5, rfl, hst, s3, ht3, hp3, nd, fr, l1, l2⟩ ⟨rfl, rfl⟩
      simp only [List.length_map, Int.toNat_natCast] at hi
      obtain ⟨s1, s2, g1, g2, g3⟩ := runM nstep _ _ _ hrun i ((rowF f)[i]) (List.getElem?_eq_getElem hi)
      rw [hst] at g1
      obtain rfl := Option.some.inj g1
      have hs3 : SqL K H4 a ((rowF f).map V.int) := s3.seq hs
      have hna := nd.1
      cases st with
      | nil => cases g2
      | cons y r =>
        rw [nstep_eq] at g2
        have l3 : r.length ≤ i := by simpa using l2
        walk_at "rd"
        refine r_ixI hs3 (by omega) (by omega) fun n hn => ?_
        rw [Int.toNat_natCast, List.getElem?_eq_getElem hi] at hn
        obtain rfl := Option.some.inj hn
        have hpr : (y :: r).reverse = r.reverse ++ [y] := List.reverse_cons
        unfold iLs at hp3
        rw [hpr, List.map_append] at hp3
        walk_at "rd"
        refine ifd (fun hx => ?_) (fun hx => ?_)
        · rw [if_pos hx] at g2
          obtain rfl := Option.some.inj g2
          walk_at "rd"
          refine r_ixI hs3 (by omega) (by omega) fun n hn => ?_
          rw [Int.toNat_natCast, List.getElem?_eq_getElem hi] at hn
          obtain rfl := Option.some.inj hn
          walk_at "rd"
          intro b hb
          have hbt : b ≠ t := ne_fr ht3 hb
          have hbp : b ≠ pl := ne_fr hp3 hb
          walk_at "rd"
          have s4 : Same H4 (upd H4 b (HO.lst [V.int y, V.int (rowF f)[i], V.int (i : Int), V.int (i : Int), V.int 0])) := sm_up hb
          have nd2 : NdL (upd H4 b (HO.lst [V.int y, V.int (rowF f)[i], V.int (i : Int), V.int (i : Int), V.int 0])) (as ++ [b]) (ps ++ [(y, (rowF f)[i])]) := ndl_push (ndl_up nd s4) upd_same
          have hmem : ∀ c ∈ as ++ [b], H c = none ∧ c ≠ pl := fun c hc => by
            rcases List.mem_append.mp hc with e | e
            · exact fr c e
            · rw [List.mem_singleton.mp e]
              exact ⟨s3.free hb, hbp⟩
          refine ⟨as ++ [b], ps ++ [(y, (rowF f)[i])], (ps.length : Int) :: y :: r, post, _, _, rfl, g3, ?_, ?_, ?_, ?_, hmem, ?_, ?_⟩
          · walk_at "sm"
          · rw [upd_ne htp.symm, upd_same, List.map_append]
            rfl
          · rw [upd_same, iLs, List.reverse_cons, hpr]
            simp [hna]
          · refine ndl_but (ndl_but nd2 fun q => ?_) fun q => (hmem _ q).2 rfl
            exact ndl_not s4 nd2 ht3 q
          · simp
            omega
          · simp at l2 ⊢
            omega
        · rw [if_neg hx] at g2
          have hc : 0 ≤ y ∧ y < ps.length := Decidable.byContradiction fun q => by
            rw [if_neg q] at g2
            cases g2
          rw [if_pos hc] at g2
          obtain rfl := Option.some.inj g2
          have hyn : y.toNat < ps.length := by omega
          obtain ⟨b, x1, x2, x3, ea, eb⟩ := ndl_at nd hyn
          have hbm : b ∈ as := List.mem_of_getElem? ea
          have hbp : b ≠ pl := (fr b hbm).2
          have hbt : b ≠ t := fun q => ndl_not (Same.refl _) nd ht3 (by rw [← q]; exact hbm)
          have hgv : (as.map V.ref)[y.toNat]? = some (V.ref b) := by rw [List.getElem?_map, ea]; rfl
          have ht4 : SqL K (upd H4 pl (HO.lst (r.reverse.map V.int))) t (as.map V.ref) := SqL.of (by walk_at "hg")
          walk_at "rd"
          refine r_pop (by walk_at "hg") ?_
          walk_at "rd"
          refine r_ix ht4 hc.1 (by rw [List.length_map]; omega) fun v hv => ?_
          rw [hgv] at hv
          obtain rfl := Option.some.inj hv
          have eb2 : (upd H4 pl (HO.lst (r.reverse.map V.int))) b = some (.lst [V.int ps[y.toNat].1, V.int ps[y.toNat].2, V.int x1, V.int x2, V.int x3]) := (upd_ne hbp).trans eb
          walk_at "rd"
          refine r_ix (xs := as.map V.ref) (SqL.of ?_) hc.1 (by rw [List.length_map]; omega) fun v hv => ?_
          · rw [upd_ne hbt.symm, upd_ne htp.symm]
            exact ht3
          rw [hgv] at hv
          obtain rfl := Option.some.inj hv
          walk_at "rd"
          have nd1 : NdL (upd H4 pl (HO.lst (r.reverse.map V.int))) as ps := ndl_but nd fun q => (fr pl q).2 rfl
          have nd2 := ndl_set (x' := x1) (y' := (i : Int)) (z' := x3) nd1 eb2
          have nd3 := ndl_set (x' := x1) (y' := (i : Int)) (z' := post) nd2 upd_same
          have hbn : H b = none := (fr b hbm).1
          refine ⟨as, ps, r, post + 1, _, _, rfl, g3, ?_, ?_, ?_, nd3, fr, by omega, by omega⟩
          · exact sm_mut (sm_mut (sm_mut s3 fpl) hbn) hbn
          · rw [upd_ne hbt.symm, upd_ne hbt.symm, upd_ne htp.symm]
            exact ht3
          · rw [upd_ne hbp.symm, upd_ne hbp.symm, upd_same]
            rfl
    · rintro σ H3 ⟨as, ps, st, post, v4, v5, rfl, hst, s3, ht3, hp3, nd, fr, l1, l2⟩
      simp only [List.length_map, Int.toNat_natCast, List.take_length] at hst
      rw [hrun] at hst
      obtain ⟨e1, e2⟩ := Prod.mk.inj (Option.some.inj hst)
      have e3 : tabF (-1) 0 f = ps := by simpa using e1
      walk_at "rd"
      refine k t _ s3 ht ?_
      rw [e3]
      refine ndl_nodes (as := as) ⟨nd.1, fun j b p hb hp => ?_⟩ ((nw_at ht).trans ht3)
      obtain ⟨x, y, z, e⟩ := nd.2 j b p hb hp
      exact ⟨x, y, z, (nw_at (fr b (List.mem_of_getElem? hb)).1).trans e⟩
end

section
variable {K : PySem.W.Frag} {H : Hp} {Q : VK} {x v : V} {ps : List (Int × Int)}
def NdAt (K : PySem.W.Frag) (H : Hp) (u : V) (p : Int × Int) : Prop := ∃ x y z : Int, Dp K H u (dI [p.1, p.2, x, y, z])
theorem nd_list (h : NodesAt K H v ps) : ∃ a xs, v = .ref a ∧ SqL K H a xs ∧ xs.length = ps.length := by
  obtain ⟨ds, hd, hl, _⟩ := h
  obtain ⟨a, vs, rfl, s, t⟩ := dp_list' hd
  exact ⟨a, vs, rfl, s, by rw [dps_len t, hl]⟩
theorem r_nd {i : Int} (h : NodesAt K H v ps) (h0 : 0 ≤ i) (hi : i < ps.length) (k : ∀ u, NdAt K H u (upA ps i.toNat, labA ps i.toNat) → Q u H) : rIxL K v (.int i) H Q := by
  obtain ⟨ds, hd, hl, hg⟩ := h
  have hn : i.toNat < ps.length := by omega
  obtain ⟨x, y, z, e⟩ := hg i.toNat ps[i.toNat] (List.getElem?_eq_getElem hn)
  refine r_ixd hd h0 e fun u hu => k u ⟨x, y, z, ?_⟩
  rw [upA_at (List.getElem?_eq_getElem hn), labA_at (List.getElem?_eq_getElem hn)]
  exact hu
theorem r_nd0 {u : V} {p : Int × Int} (h : NdAt K H u p) (k : Q (.int p.1) H) : rIxL K u (.int 0) H Q := by
  obtain ⟨x, y, z, e⟩ := h
  exact r_ixd e (by decide) rfl fun w hw => by rw [dp_int' hw]; exact k
theorem r_nd1 {u : V} {p : Int × Int} (h : NdAt K H u p) (k : Q (.int p.2) H) : rIxL K u (.int 1) H Q := by
  obtain ⟨x, y, z, e⟩ := h
  exact r_ixd e (by decide) rfl fun w hw => by rw [dp_int' hw]; exact k
theorem NdAt.up {H' : Hp} {u : V} {p : Int × Int} (h : NdAt K H u p) (s : Same H H') : NdAt K H' u p := let ⟨x, y, z, e⟩ := h; ⟨x, y, z, dp_up s e⟩
end
section
variable {P : Program} {w : World} {K : PySem.W.Frag} {mg : Str → Option Value} {base : Heap}
def sp_law_kids (K : PySem.W.Frag) : Sp := fun vs H Q _ => ∃ (t : V) (ps : List (Int × Int)) (v : Int), vs = [t, .int v, .int (-1)] ∧ NodesAt K H t ps ∧ ps.length ≤ 1000 ∧
  ∀ (l : Addr) (H' : Hp), Same H H' → H l = none → H' l = some (iLs (iN (kidN ps v))) → Q (.ref l) H'
theorem ok_law_kids (T : Tx K mg) : FnOk P w K mg base CX0 1 T.d_law_kids.a T.d_law_kids.fd P_law_kids (sp_law_kids K) := by
  refine T.d_law_kids.F.ok sc_law_kids (fun vs H Q E h => ?_) (fun cdv A outer s H vs Q E hr h => ?_)
  · obtain ⟨_, _, _, rfl, _⟩ := h
    rfl
  · obtain ⟨t, ps, v, rfl, hs, hl, k⟩ := h
    refine ⟨_, ((pss_one (ps_ret (pe_lc (own := [("k", 3)]) (g := gName 3) rfl sc_law_kids.nd (pi_range1 rfl T.b_range (pa_cons (pe_callB (r := cLen K) k_len (by rfl) T.b_len (by decide +kernel) (pa_cons (pv 0) pa_nil)) pa_nil)) (blkOk_by (own := [("k", 3)]) (N := N_law_kids) (sc := defScope s_law_kids) (by decide +kernel)) (fun _ _ _ _ _ => (pg_name (i := 3) sc_law_kids.nd rfl (by first | exact Or.inl rfl | exact Or.inr rfl))) (fun _ _ _ _ _ => pts_one (PW.pt (pw_and (pt_cmpR op_eq (pe_ix (r := rIxL K) ix_list (pe_ix (r := rIxL K) ix_list (pv 0) (pv 3) (fun _ _ => rfl)) pe_int (fun _ _ => rfl)) (pv 1) (nomark _)) (pw_and1 (pt_cmpR op_ne (pv 3) (pv 2) (nomark _)))))) (fun _ _ _ _ _ => (pv 3)))))), ?_⟩
    try simp only [nxK, cxK]
    obtain ⟨a, xs, rfl, ha, hx⟩ := nd_list hs
    walk_at "rd"
    refine ⟨_, rfl, by omega, by omega, lcJ walkR (fun _ _ => trivial) ⟨by omega, fun D hD => ⟨fun i acc _ => acc = (iN ((List.range i).filter fun k => decide (upA ps k = v))).map V.int, rfl, ?_, ?_⟩⟩⟩
    · rintro i x acc H2 H3 hi ⟨rfl, rfl⟩ s1 hD' hl' rfl
      have hi' : i < ps.length := by omega
      walk_at "rd"
      refine r_nd (hs.up s1) (by omega) (by omega) fun u hu => ?_
      walk_at "rd"
      refine r_nd0 hu ?_
      walk_at "rd"
      rw [Int.toNat_natCast]
      refine ifd (fun e => ?_) (fun e => ?_)
      · walk_at "rd"
        refine ifnd (fun _ => ?_) (fun e2 => absurd e2 (by omega))
        walk_at "rd"
        refine lcIn s1 hD hD' hl' (by omega) ?_
        rw [range_filter_snoc, if_pos (decide_eq_true e), iN_snoc, List.map_append]
        rfl
      · refine iteF ?_
        refine lcOut s1 hD' hl' ?_
        rw [range_filter_snoc, if_neg (by rw [decide_eq_false e]; decide), List.append_nil]
    · rintro acc H2 s1 hD' hl' rfl
      refine k D H2 s1 hD ?_
      rw [hD', iLs, kidN, hx, Int.toNat_natCast]
end

section
variable {K : PySem.W.Frag} {H : Hp} {Q : VK} {x v : V} {rs : List Rule}
theorem dR_none {r : Rule} (h : Dp K H x (dR r)) : decide (x = .non) = decide (r = none) := by
  cases r with
  | none =>
    cases h
    rfl
  | some p =>
    obtain ⟨m, ls⟩ := p
    obtain ⟨a, vs, rfl, _⟩ := dp_list' (show Dp K H x (.list [dM m, dI ls]) from h)
    rfl
theorem dM_none {m : Option (List Int)} (h : Dp K H x (dM m)) : decide (x = .non) = decide (m = none) := by
  cases m with
  | none =>
    cases h
    rfl
  | some p =>
    obtain ⟨a, rfl, _⟩ := dp_ints' (show Dp K H x (dI p) from h)
    rfl
theorem r_rule {i : Int} (h : Dp K H v (.list (rs.map dR))) (h0 : 0 ≤ i) (h1 : i < rs.length) (k : ∀ u, Dp K H u (dR (ruleA rs i)) → Q u H) : rIxL K v (.int i) H Q := by
  have hn : i.toNat < rs.length := by omega
  refine r_ixd h h0 (d := dR (ruleA rs i)) ?_ k
  rw [List.getElem?_map, List.getElem?_eq_getElem hn]
  unfold ruleA
  rw [List.getElem?_eq_getElem hn]
  rfl
theorem r_rM {m : Option (List Int)} {ls : List Int} (h : Dp K H v (dR (some (m, ls)))) (k : ∀ u, Dp K H u (dM m) → Q u H) : rIxL K v (.int 0) H Q := r_ixd (ds := [dM m, dI ls]) h (by decide) rfl k
theorem r_rL {m : Option (List Int)} {ls : List Int} (h : Dp K H v (dR (some (m, ls)))) (k : ∀ a, SqL K H a (ls.map V.int) → Q (.ref a) H) : rIxL K v (.int 1) H Q := r_ixd (ds := [dM m, dI ls]) h (by decide) rfl fun u hu => by
  obtain ⟨a, rfl, hs⟩ := dp_ints' hu
  exact k a hs
end
section
variable {P : Program} {w : World} {K : PySem.W.Frag} {mg : Str → Option Value} {base : Heap}
def LabOk (ps : List (Int × Int)) : Prop := ∀ k, k < ps.length → 1 ≤ labA ps k ∧ labA ps k ≤ 9
def sp_law_breaks (K : PySem.W.Frag) : Sp := fun vs H Q _ => ∃ (ra : Addr) (roots : List Int) (rv t : V) (rs : List Rule) (ps : List (Int × Int)), vs = [.ref ra, rv, t] ∧ SqL K H ra (roots.map V.int) ∧ Dp K H rv (.list (rs.map dR)) ∧ rs.length = 10 ∧ NodesAt K H t ps ∧ ps.length ≤ 1000 ∧ LabOk ps ∧
  ∀ (l : Addr) (H' : Hp), Same H H' → H l = none → H' l = some (iLs (brkL roots rs ps)) → Q (.ref l) H'
theorem ok_law_breaks (T : Tx K mg) : FnOk P w K mg base CX0 2 T.d_law_breaks.a T.d_law_breaks.fd P_law_breaks (sp_law_breaks K) := by
  refine T.d_law_breaks.F.ok sc_law_breaks (fun vs H Q E h => ?_) (fun cdv A outer s H vs Q E hr h => ?_)
  · obtain ⟨_, _, _, _, _, _, rfl, _⟩ := h
    rfl
  · obtain ⟨ra, roots, rv, t, rs, ps, rfl, hra, hrv, hrl, hs, hl, hlab, k⟩ := h
    refine ⟨_, ((pss_cons (ps_set (i := 3) sc_law_breaks.nd rfl (by first | exact Or.inl rfl | exact Or.inr rfl) (pe_lst pa_nil))
  (pss_cons (ps_for PassesOwn.never rfl (pi_range1 rfl T.b_range (pa_cons (pe_callB (r := cLen K) k_len (by rfl) T.b_len (by decide +kernel) (pa_cons (pv 2) pa_nil)) pa_nil)) (pg_name (i := 4) sc_law_breaks.nd rfl (by first | exact Or.inl rfl | exact Or.inr rfl)) 
    (pss_cons (ps_set (i := 5) sc_law_breaks.nd rfl (by first | exact Or.inl rfl | exact Or.inr rfl) (pe_call (ok_law_kids T) (hr.mono (by decide)) rfl T.d_law_kids.g T.d_law_kids.F.kp T.d_law_kids.b .nil pass0 (pa_cons (pv 2) (pa_cons (pv 4) (pa_cons (pe_un un_neg pe_int) pa_nil)))))
    (pss_cons (ps_set (i := 6) sc_law_breaks.nd rfl (by first | exact Or.inl rfl | exact Or.inr rfl) (pe_ix (r := rIxL K) ix_list (pv 1) (pe_ix (r := rIxL K) ix_list (pe_ix (r := rIxL K) ix_list (pv 2) (pv 4) (fun _ _ => rfl)) pe_int (fun _ _ => rfl)) (fun _ _ => rfl)))
    (pss_one (ps_if (PW.pt (pw_or (PW.pt (pw_and (pt_cmpR op_eq (pv 4) pe_int (nomark _)) (pw_and1 (pt_cmpR (r := rIn K true) op_notIn_seq (pe_ix (r := rIxL K) ix_list (pe_ix (r := rIxL K) ix_list (pv 2) (pv 4) (fun _ _ => rfl)) pe_int (fun _ _ => rfl)) (pv 0) rfl)))) (pw_or1 (pt_cmpR k_isN (pv 6) pe_non (nomark _))))) 
      (pss_one (ps_expr (pe_bm PySem.F.plainAttrs_list PySem.F.slot_list_append PySem.F.type_list_append mt_append (pv 3) (pa_cons (pv 4) pa_nil)))) 
      (pss_one (ps_if (PW.pt (pw_and (pt_cmpR k_notN (pe_ix (r := rIxL K) ix_list (pv 6) pe_int (fun _ _ => rfl)) pe_non (nomark _)) (pw_and1 (pt_cmpR (r := rIn K true) op_notIn_seq (pe_callB (r := cLen K) k_len (by rfl) T.b_len (by decide +kernel) (pa_cons (pv 5) pa_nil)) (pe_ix (r := rIxL K) ix_list (pv 6) pe_int (fun _ _ => rfl)) rfl)))) 
        (pss_one (ps_expr (pe_bm PySem.F.plainAttrs_list PySem.F.slot_list_append PySem.F.type_list_append mt_append (pv 3) (pa_cons (pv 4) pa_nil)))) 
        (pss_one (ps_if (pt_cmpR (r := rNeD K) (op_neD hr.units) (pe_lc (own := [("k", 7)]) (g := gName 7) rfl sc_law_breaks.nd (pi_list (pv 5)) (blkOk_by (own := [("k", 7)]) (N := N_law_breaks) (sc := defScope s_law_breaks) (by decide +kernel)) (fun _ _ _ _ _ => (pg_name (i := 7) sc_law_breaks.nd rfl (by first | exact Or.inl rfl | exact Or.inr rfl))) (fun _ _ _ _ _ => pts_one (pt_cmpR (r := rIn K true) op_notIn_seq (pe_ix (r := rIxL K) ix_list (pe_ix (r := rIxL K) ix_list (pv 2) (pv 7) (fun _ _ => rfl)) pe_int (fun _ _ => rfl)) (pe_ix (r := rIxL K) ix_list (pv 6) pe_int (fun _ _ => rfl)) rfl)) (fun _ _ _ _ _ => (pv 7))) (pe_lst pa_nil) (nomark _)) 
          (pss_one (ps_expr (pe_bm PySem.F.plainAttrs_list PySem.F.slot_list_append PySem.F.type_list_append mt_append (pv 3) (pa_cons (pv 4) pa_nil)))) pss_nil)))))))))
  (pss_one (ps_ret (pv 3)))))), ?_⟩
    try simp only [nxK, cxK]
    obtain ⟨ta, xs, rfl, hta, hx⟩ := nd_list hs
    walk_at "rd"
    intro fo hfo
    walk_at "rd"
    refine ⟨_, rfl, by omega, by omega, forJ walkR ⟨fun i σ H' => ∃ (v4 v5 v6 v7 : Option V), σ = [some (.ref ra), some rv, some (.ref ta), some (.ref fo), v4, v5, v6, v7] ∧ Same H H' ∧ H' fo = some (iLs (iN ((List.range i).filter (brk roots rs ps)))), ?_, fun _ _ _ _ _ => trivial, ?_, ?_⟩⟩
    · exact ⟨none, none, none, none, rfl, by walk_at "sm", upd_same⟩
    · rintro i x σ H3 H4 hi ⟨v4, v5, v6, v7, rfl, s4, hf4⟩ ⟨rfl, rfl⟩
      have hi' : i < ps.length := by omega
      obtain ⟨lb1, lb2⟩ := hlab i hi'
      have flen : ((List.range i).filter (brk roots rs ps)).length ≤ 1000 := by
        have := List.length_filter_le (brk roots rs ps) (List.range i)
        rw [List.length_range] at this
        omega
      have finA : brk roots rs ps i = true → iLs (iN ((List.range (i + 1)).filter (brk roots rs ps))) = .lst ((iN ((List.range i).filter (brk roots rs ps))).map V.int ++ [V.int (i : Int)]) := fun e => by
        rw [range_filter_snoc, if_pos e, iN_snoc, iLs, List.map_append]
        rfl
      have finB : brk roots rs ps i = false → (List.range (i + 1)).filter (brk roots rs ps) = (List.range i).filter (brk roots rs ps) := fun e => by
        rw [range_filter_snoc, if_neg (by rw [e]; decide), List.append_nil]
      have ilen : (iN ((List.range i).filter (brk roots rs ps))).length ≤ 1000 := by rw [iN_len]; exact flen
      have fbrk : ∀ b1 b2 : Bool, (decide (i = 0) && !decide (labA ps i ∈ roots)) = b1 → lets (ruleA rs (labA ps i)) (kLab ps (i : Nat)) = b2 → brk roots rs ps i = (b1 || !b2) := fun b1 b2 h1 h2 => by
        unfold brk
        rw [h1, h2]
      walk_at "rd"
      refine ⟨.ref ta, ps, (i : Int), rfl, hs.up s4, hl, fun kl H5 s5 hkl0 hkl => ?_⟩
      have s45 : Same H H5 := s4.trans s5
      have hf5 : H5 fo = some (.lst ((iN ((List.range i).filter (brk roots rs ps))).map V.int)) := s5 _ _ hf4
      have hkl5 : SqL K H5 kl ((iN (kidN ps (i : Nat))).map V.int) := SqL.of hkl
      walk_at "rd"
      refine r_nd (hs.up s45) (by omega) (by omega) fun u hu => ?_
      walk_at "rd"
      refine r_nd1 hu ?_
      rw [Int.toNat_natCast]
      refine r_rule (dp_up s45 hrv) (by omega) (by omega) fun ru hru => ?_
      walk_at "rn"
      with_reducible show tIfS _ _ _ _ _ _
      refine r_ifT ((decide (i = 0) && !decide (labA ps i ∈ roots)) || decide (ruleA rs (labA ps i) = none)) (fun R hR => ?_) (fun hb => ?_) (fun hb => ?_)
      · rw [← dR_none hru] at hR
        walk_at "rd"
        refine ifd (fun e0 => ?_) (fun e0 => ?_)
        · walk_at "rd"
          refine r_nd (hs.up s45) (by omega) (by omega) fun u2 hu2 => ?_
          walk_at "rd"
          refine r_nd1 hu2 ?_
          walk_at "rd"
          rw [decide_eq_true (show i = 0 by omega)] at hR
          refine ifnd (fun e1 => ?_) (fun e1 => ?_)
          · rw [decide_eq_false (show ¬ labA ps i ∈ roots from e1)] at hR
            exact hR
          · rw [decide_eq_true (show labA ps i ∈ roots from e1)] at hR
            walk_at "rd"
            exact hR
        · rw [decide_eq_false (show ¬ i = 0 by omega)] at hR
          refine iteF ?_
          walk_at "rd"
          exact hR
      · have hbr : brk roots rs ps i = true := by
          unfold brk
          rcases Bool.or_eq_true_iff.mp hb with e | e
          · rw [e]
            rfl
          · rw [of_decide_eq_true e]
            simp [lets]
        walk_at "rd"
        refine ⟨_, _, _, _, rfl, by walk_at "sm", ?_⟩
        rw [finA hbr]
        exact upd_same
      · obtain ⟨hb1, hb2⟩ := Bool.or_eq_false_iff.mp hb
        cases er : ruleA rs (labA ps i) with
        | none =>
          rw [er] at hb2
          cases hb2
        | some p =>
          obtain ⟨m, ls⟩ := p
          rw [er] at hru
          have hbe : brk roots rs ps i = !lets (some (m, ls)) (kLab ps (i : Nat)) := by rw [fbrk _ _ hb1 rfl, er, Bool.false_or]
          have klen : (kLab ps (i : Nat)).length = (kidN ps (i : Nat)).length := kLab_len _ _
          walk_at "rn"
          with_reducible show tIfS _ _ _ _ _ _
          refine r_ifT (match m with | none => false | some ms => !decide (((kLab ps (i : Nat)).length : Int) ∈ ms)) (fun R hR => ?_) (fun hb => ?_) (fun hb => ?_)
          · walk_at "rd"
            refine r_rM hru fun um hum => ?_
            walk_at "rd"
            rw [dM_none hum]
            cases m with
            | none =>
              walk_at "rd"
              exact hR
            | some ms =>
              obtain ⟨ma, rfl, hma⟩ := dp_ints' (show Dp K H5 um (dI ms) from hum)
              refine iteT ?_
              walk_at "rd"
              refine r_rM hru fun um2 hum2 => ?_
              obtain ⟨ma2, rfl, hma2⟩ := dp_ints' (show Dp K H5 um2 (dI ms) from hum2)
              rw [List.length_map, iN_len, ← klen]
              walk_at "rd"
              exact hR
          · have hbr : brk roots rs ps i = true := by
              rw [hbe]
              cases m with
              | none => cases hb
              | some ms =>
                have e : decide (((kLab ps (i : Nat)).length : Int) ∈ ms) = false := by simpa using hb
                simp [lets, e]
            walk_at "rd"
            refine ⟨_, _, _, _, rfl, by walk_at "sm", ?_⟩
            rw [finA hbr]
            exact upd_same
          · have hbe2 : brk roots rs ps i = !(kLab ps (i : Nat)).all fun k => decide (k ∈ ls) := by
              rw [hbe]
              cases m with
              | none => simp [lets]
              | some ms =>
                have e : decide (((kLab ps (i : Nat)).length : Int) ∈ ms) = true := by simpa using hb
                simp only [lets, e, Bool.true_and]
            walk_at "rd"
            refine ⟨_, rfl, ⟨_, hkl5⟩, lcJ walk_list (fun H' s => s.seq hkl5) ⟨by rw [List.length_map, iN_len]; have := kidN_le ps (i : Nat); omega, fun D hD => ⟨fun j acc _ => acc = (iN (((kidN ps (i : Nat)).take j).filter fun k => !decide (labA ps k ∈ ls))).map V.int, rfl, ?_, ?_⟩⟩⟩
            · rintro j x acc H6 H7 hj ⟨rfl, hxj⟩ s6 hD6 hl6 rfl
              obtain ⟨n, hn, rfl⟩ := map_get hxj
              obtain ⟨kk, hkk, rfl⟩ := map_get hn
              have hkl2 := kidN_lt (List.mem_of_getElem? hkk)
              have hrun : rs.length = 10 := hrl
              have s7 : Same H H7 := s45.trans s6
              walk_at "rd"
              refine r_nd (hs.up s7) (by omega) (by omega) fun u3 hu3 => ?_
              walk_at "rd"
              refine r_nd1 hu3 ?_
              rw [Int.toNat_natCast]
              walk_at "rd"
              refine r_rL (dp_up s6 hru) fun la hla => ?_
              walk_at "rd"
              have etake : (kidN ps (i : Nat)).take (j + 1) = (kidN ps (i : Nat)).take j ++ [kk] := by rw [List.take_add_one, hkk]; rfl
              refine ifnd (fun e => ?_) (fun e => ?_)
              · walk_at "rd"
                refine lcIn s6 hD hD6 hl6 (by have := kidN_le ps (i : Nat); rw [List.length_map, iN_len] at hj; omega) ?_
                rw [etake, List.filter_append, show ([kk].filter fun k => !decide (labA ps k ∈ ls)) = [kk] from by simp [e], iN_snoc, List.map_append]
                rfl
              · refine lcOut s6 hD6 hl6 ?_
                rw [etake, List.filter_append, show ([kk].filter fun k => !decide (labA ps k ∈ ls)) = [] from by simp [e], List.append_nil]
            · rintro acc H6 s6 hD6 hl6 rfl
              walk_at "rd"
              intro em hem
              walk_at "rd"
              have hl7 : ((iN (kidN ps (i : Nat))).map V.int).length = (kidN ps (i : Nat)).length := by rw [List.length_map, iN_len]
              rw [hl7, List.take_length] at hD6
              refine r_neD (dp_ints (ns := iN ((kidN ps (i : Nat)).filter fun k => !decide (labA ps k ∈ ls))) (by walk_at "sq")) (dp_ints (ns := []) (by walk_at "sq")) (shapedI _) (shapedI _) ?_
              rw [eqvI]
              walk_at "rd"
              have eall : (iN ((kidN ps (i : Nat)).filter fun k => !decide (labA ps k ∈ ls)) = []) ↔ ((kLab ps (i : Nat)).all fun k => decide (k ∈ ls)) = true := by
                unfold iN kLab
                rw [List.map_eq_nil_iff, filter_nil_all (fun k => decide (labA ps k ∈ ls)), List.all_map]
                exact Iff.rfl
              refine ifnd (fun e => ?_) (fun e => ?_)
              · have hbr : brk roots rs ps i = true := by
                  rw [hbe2]
                  cases h : (kLab ps (i : Nat)).all fun k => decide (k ∈ ls) with
                  | true => exact absurd (eall.mpr h) e
                  | false => rfl
                walk_at "rd"
                refine ⟨_, _, _, _, rfl, by walk_at "sm", ?_⟩
                rw [finA hbr]
                exact upd_same
              · have hbr : brk roots rs ps i = false := by
                  rw [hbe2, eall.mp e]
                  rfl
                walk_at "rd"
                refine ⟨_, _, _, _, rfl, by walk_at "sm", ?_⟩
                rw [finB hbr]
                walk_at "hg"
    · rintro σ H3 ⟨v4, v5, v6, v7, rfl, s3, hf3⟩
      walk_at "rd"
      refine k fo H3 s3 hfo ?_
      rw [hf3, brkL, hx, Int.toNat_natCast]
end

section
variable {P : Program} {w : World} {K : PySem.W.Frag} {mg : Str → Option Value} {base : Heap}
def sp_law_own (K : PySem.W.Frag) : Sp := fun vs H Q _ => ∃ (rv : V) (rs : List Rule) (a many kid : Int), vs = [rv, .int a, .int many, .int kid] ∧ Dp K H rv (.list (rs.map dR)) ∧ rs.length = 10 ∧ 0 ≤ a ∧ a ≤ 9 ∧ Q (.int (ownV (ruleA rs a) many kid)) H
theorem ok_law_own (T : Tx K mg) : FnOk P w K mg base CX0 1 T.d_law_own.a T.d_law_own.fd P_law_own (sp_law_own K) := by
  refine T.d_law_own.F.ok sc_law_own (fun vs H Q E h => ?_) (fun cdv A outer s H vs Q E hr h => ?_)
  · obtain ⟨_, _, _, _, _, rfl, _⟩ := h
    rfl
  · obtain ⟨rv, rs, a, many, kid, rfl, hrv, hrl, a0, a9, k⟩ := h
    refine ⟨_, ((pss_cons (ps_if (PW.pt (pw_or (pt_cmpR k_isN (pe_ix (r := rIxL K) ix_list (pv 0) (pv 1) (fun _ _ => rfl)) pe_non (nomark _)) (pw_or1 (pt_cmpR (r := rIn K true) op_notIn_seq (pv 3) (pe_ix (r := rIxL K) ix_list (pe_ix (r := rIxL K) ix_list (pv 0) (pv 1) (fun _ _ => rfl)) pe_int (fun _ _ => rfl)) rfl)))) 
    (pss_one (ps_ret pe_int)) pss_nil)
  (pss_one (ps_ret (pe_callTy k_int (by rfl) T.b_int (by decide +kernel) (pa_cons (pe_and (pe_cmpR k_notN (pe_ix (r := rIxL K) ix_list (pe_ix (r := rIxL K) ix_list (pv 0) (pv 1) (fun _ _ => rfl)) pe_int (fun _ _ => rfl)) pe_non (nomark _)) (pe_one (pe_cmpR (r := rIn K true) op_notIn_seq (pv 2) (pe_ix (r := rIxL K) ix_list (pe_ix (r := rIxL K) ix_list (pv 0) (pv 1) (fun _ _ => rfl)) pe_int (fun _ _ => rfl)) rfl))) pa_nil)))))), ?_⟩
    try simp only [nxK, cxK]
    walk_at "rd"
    refine r_rule hrv a0 (by omega) fun ru hru => ?_
    walk_at "rd"
    rw [dR_none hru]
    cases er : ruleA rs a with
    | none =>
      rw [er] at k
      refine iteT ?_
      walk_at "rd"
      exact k
    | some p =>
      obtain ⟨m, ls⟩ := p
      rw [er] at k hru
      refine iteF ?_
      walk_at "rd"
      refine r_rule hrv a0 (by omega) fun ru2 hru2 => ?_
      rw [er] at hru2
      walk_at "rd"
      refine r_rL hru2 fun la hla => ?_
      walk_at "rd"
      refine ifnd (fun e => ?_) (fun e => ?_)
      · walk_at "rd"
        simp only [ownV, if_neg e] at k
        exact k
      · walk_at "rd"
        simp only [ownV, if_pos e] at k
        refine r_rule hrv a0 (by omega) fun ru3 hru3 => ?_
        rw [er] at hru3
        walk_at "rd"
        refine r_rM hru3 fun um hum => ?_
        walk_at "rd"
        rw [dM_none hum]
        cases m with
        | none =>
          refine iteF ?_
          walk_at "rd"
          exact k
        | some ms =>
          refine iteT ?_
          walk_at "rd"
          refine r_rule hrv a0 (by omega) fun ru4 hru4 => ?_
          rw [er] at hru4
          walk_at "rd"
          refine r_rM hru4 fun um2 hum2 => ?_
          obtain ⟨ma2, rfl, hma2⟩ := dp_ints' (show Dp K H um2 (dI ms) from hum2)
          walk_at "rd"
          by_cases e3 : many ∈ ms
          · rw [decide_eq_true e3]
            simp only [if_pos e3] at k
            exact k
          · rw [decide_eq_false e3]
            simp only [if_neg e3] at k
            exact k
def sp_law_given (K : PySem.W.Frag) : Sp := fun vs H Q _ => ∃ (rv : V) (rs : List Rule), vs = [rv] ∧ Dp K H rv (.list (rs.map dR)) ∧ rs.length = 10 ∧
  ∀ (g : Addr) (kvs : List (Key × V)) (H' : Hp), Same H H' → H g = none → H' g = some (.dK kvs) → KvD K (wo (nw H H') g) kvs (giveL rs 9) → Q (.ref g) H'
theorem ok_law_given (T : Tx K mg) : FnOk P w K mg base CX0 1 T.d_law_given.a T.d_law_given.fd P_law_given (sp_law_given K) := by
  refine T.d_law_given.F.ok sc_law_given (fun vs H Q E h => ?_) (fun cdv A outer s H vs Q E hr h => ?_)
  · obtain ⟨_, _, rfl, _⟩ := h
    rfl
  · obtain ⟨rv, rs, rfl, hrv, hrl, k⟩ := h
    refine ⟨_, ((pss_cons (ps_set (i := 1) sc_law_given.nd rfl (by first | exact Or.inl rfl | exact Or.inr rfl) pe_dnewK)
  (pss_cons (ps_for PassesOwn.never rfl (pi_range2 rfl T.b_range (pa_cons pe_int (pa_cons pe_int pa_nil))) (pg_name (i := 2) sc_law_given.nd rfl (by first | exact Or.inl rfl | exact Or.inr rfl)) 
    (pss_one (ps_if (PW.pt (pw_and (pt_cmpR k_notN (pe_ix (r := rIxL K) ix_list (pv 0) (pv 2) (fun _ _ => rfl)) pe_non (nomark _)) (pw_and1 (pt_cmpR k_isN (pe_ix (r := rIxL K) ix_list (pe_ix (r := rIxL K) ix_list (pv 0) (pv 2) (fun _ _ => rfl)) pe_int (fun _ _ => rfl)) pe_non (nomark _))))) 
      (pss_one (ps_dput (hu_of hr) (pv 1) (pv 2) (pe_tup (pa_cons pe_non (pa_cons (pe_callTy (r := cTup K) k_tup (by rfl) T.b_tuple (by decide +kernel) (pa_cons (pe_ix (r := rIxL K) ix_list (pe_ix (r := rIxL K) ix_list (pv 0) (pv 2) (fun _ _ => rfl)) pe_int (fun _ _ => rfl)) pa_nil)) pa_nil))) rfl)) 
      (pss_one (ps_if (pt_cmpR k_notN (pe_ix (r := rIxL K) ix_list (pv 0) (pv 2) (fun _ _ => rfl)) pe_non (nomark _)) 
        (pss_one (ps_dput (hu_of hr) (pv 1) (pv 2) (pe_tup (pa_cons (pe_callTy (r := cTup K) k_tup (by rfl) T.b_tuple (by decide +kernel) (pa_cons (pe_ix (r := rIxL K) ix_list (pe_ix (r := rIxL K) ix_list (pv 0) (pv 2) (fun _ _ => rfl)) pe_int (fun _ _ => rfl)) pa_nil)) (pa_cons (pe_callTy (r := cTup K) k_tup (by rfl) T.b_tuple (by decide +kernel) (pa_cons (pe_ix (r := rIxL K) ix_list (pe_ix (r := rIxL K) ix_list (pv 0) (pv 2) (fun _ _ => rfl)) pe_int (fun _ _ => rfl)) pa_nil)) pa_nil))) rfl)) pss_nil)))))
  (pss_one (ps_ret (pv 1)))))), ?_⟩
    try simp only [nxK, cxK]
    walk_at "rd"
    intro g hg
    walk_at "rd"
    refine ⟨1, 10, rfl, by decide, forJ walkR2 ⟨fun i σ H' => ∃ (kvs : List (Key × V)) (v2 : Option V), σ = [some rv, some (.ref g), v2] ∧ Same H H' ∧ H' g = some (.dK kvs) ∧ KvD K (wo (nw H H') g) kvs (giveL rs i), ?_, fun _ _ _ _ _ => trivial, ?_, ?_⟩⟩
    · exact ⟨[], none, rfl, by walk_at "sm", upd_same, .nil⟩
    · rintro i x σ H3 H4 hi ⟨kvs, v2, rfl, s4, hg4, kv4⟩ ⟨rfl, rfl⟩
      have hi' : i < 9 := hi
      have ea : (1 : Int) + (i : Int) = ((i + 1 : Nat) : Int) := by omega
      have hkl : kvs.length < sizeLine := by
        have e1 := kv4.len
        have e2 : ∀ n, (giveL rs n).length ≤ n := by
          intro n
          induction n with
          | zero => exact Nat.le_refl _
          | succ n ih =>
            unfold giveL
            cases hr : ruleA rs ((n + 1 : Nat) : Int) <;> simp <;> omega
        have e3 := e2 i
        exact szlt (by omega)
      have hnew : valV kvs (Sum.inl (1 + (i : Int)) : Key) = none := by
        have e := kv4.val (1 + (i : Int))
        rw [giveL_at, if_neg (by omega)] at e
        exact e
      have hrv4 := dp_up s4 hrv
      have gstep : giveL rs (i + 1) = giveL rs i ++ match ruleA rs (1 + (i : Int)) with | none => [] | some p => [(1 + (i : Int), p)] := by rw [ea]; rfl
      walk_at "rn"
      with_reducible show tIfS _ _ _ _ _ _
      refine r_ifT (match ruleA rs (1 + (i : Int)) with | none => false | some (m, ls) => decide (m = none)) (fun R hR => ?_) (fun hb => ?_) (fun hb => ?_)
      · walk_at "rd"
        refine r_rule hrv4 (by omega) (by omega) fun ru hru => ?_
        walk_at "rd"
        rw [dR_none hru]
        cases er : ruleA rs (1 + (i : Int)) with
        | none =>
          rw [er] at hR
          exact iteF hR
        | some p =>
          obtain ⟨m, ls⟩ := p
          rw [er] at hR
          refine iteT ?_
          walk_at "rd"
          refine r_rule hrv4 (by omega) (by omega) fun ru2 hru2 => ?_
          rw [er] at hru2
          walk_at "rd"
          refine r_rM hru2 fun um hum => ?_
          walk_at "rd"
          rw [dM_none hum]
          exact hR
      · cases er : ruleA rs (1 + (i : Int)) with
        | none =>
          rw [er] at hb
          cases hb
        | some p =>
          obtain ⟨m, ls⟩ := p
          rw [er] at hb gstep
          have em : m = none := of_decide_eq_true hb
          subst em
          walk_at "rd"
          refine r_rule hrv4 (by omega) (by omega) fun ru hru => ?_
          rw [er] at hru
          walk_at "rd"
          refine r_rL hru fun la hla => ?_
          walk_at "rd"
          intro t1 ht1
          have n1 := ne_fr hg4 ht1
          walk_at "rd"
          intro t2 ht2
          have n2 : t2 ≠ g := ne_fr (by walk_at "hg") ht2
          have g5 : (upd (upd H4 t1 (.tup (ls.map V.int))) t2 (.tup [V.non, .ref t1])) g = some (.dK kvs) := by walk_at "hg"
          walk_at "rd"
          refine ⟨g, _, rfl, DPut.k (k := Sum.inl (1 + (i : Int))) g5 hkl, _, _, rfl, ?_, upd_same, ?_⟩
          · walk_at "sm"
          · have f1 : H t1 = none := s4.free ht1
            have f2 : H t2 = none := by walk_at "fr"
            have hs : Same H4 (upd (upd H4 t1 (.tup (ls.map V.int))) t2 (.tup [V.non, .ref t1])) := by walk_at "sm"
            rw [ng_set, putK_new _ hnew, gstep]
            refine (kv4.up (ng_up hs)).snoc (.tup (SqT.of ((ng_at f2 n2).trans upd_same)) (.cons .non (.cons (dp_tints (SqT.of ((ng_at f1 n1).trans ?_))) .nil)))
            exact hget (sm_up ht2) upd_same
      · cases er : ruleA rs (1 + (i : Int)) with
        | none =>
          rw [er] at gstep
          walk_at "rd"
          refine r_rule hrv4 (by omega) (by omega) fun ru hru => ?_
          walk_at "rd"
          rw [dR_none hru, er]
          refine iteF ?_
          walk_at "rd"
          exact ⟨_, _, rfl, s4, hg4, by rw [gstep, List.append_nil]; exact kv4⟩
        | some p =>
          obtain ⟨m, ls⟩ := p
          rw [er] at hb gstep
          cases m with
          | none => cases hb
          | some ms =>
            walk_at "rd"
            refine r_rule hrv4 (by omega) (by omega) fun ru hru => ?_
            walk_at "rd"
            rw [dR_none hru, er]
            refine iteT ?_
            walk_at "rd"
            refine r_rule hrv4 (by omega) (by omega) fun ru2 hru2 => ?_
            rw [er] at hru2
            walk_at "rd"
            refine r_rM hru2 fun um hum => ?_
            obtain ⟨ma, rfl, hma⟩ := dp_ints' (show Dp K H4 um (dI ms) from hum)
            walk_at "rd"
            intro t1 ht1
            have n1 := ne_fr hg4 ht1
            have s5 : Same H4 (upd H4 t1 (.tup (ms.map V.int))) := sm_up ht1
            walk_at "rd"
            refine r_rule (dp_up s5 hrv4) (by omega) (by omega) fun ru3 hru3 => ?_
            rw [er] at hru3
            walk_at "rd"
            refine r_rL hru3 fun la hla => ?_
            walk_at "rd"
            intro t2 ht2
            have n2 : t2 ≠ g := ne_fr (by walk_at "hg") ht2
            have f1 : H t1 = none := s4.free ht1
            have f2 : H t2 = none := by walk_at "fr"
            have s6 : Same H4 (upd (upd H4 t1 (.tup (ms.map V.int))) t2 (.tup (ls.map V.int))) := by walk_at "sm"
            have e1 : (upd (upd H4 t1 (.tup (ms.map V.int))) t2 (.tup (ls.map V.int))) t1 = some (.tup (ms.map V.int)) := hget (sm_up ht2) upd_same
            walk_at "rd"
            intro t3 ht3
            have n3 : t3 ≠ g := ne_fr (by walk_at "hg") ht3
            have f3 : H t3 = none := by walk_at "fr"
            have g5 : (upd (upd (upd H4 t1 (.tup (ms.map V.int))) t2 (.tup (ls.map V.int))) t3 (.tup [.ref t1, .ref t2])) g = some (.dK kvs) := by walk_at "hg"
            walk_at "rd"
            refine ⟨g, _, rfl, DPut.k (k := Sum.inl (1 + (i : Int))) g5 hkl, _, _, rfl, ?_, upd_same, ?_⟩
            · walk_at "sm"
            · have hs : Same H4 (upd (upd (upd H4 t1 (.tup (ms.map V.int))) t2 (.tup (ls.map V.int))) t3 (.tup [.ref t1, .ref t2])) := by walk_at "sm"
              rw [ng_set, putK_new _ hnew, gstep]
              refine (kv4.up (ng_up hs)).snoc (.tup (SqT.of ((ng_at f3 n3).trans upd_same)) (.cons (dp_tints (SqT.of ((ng_at f1 n1).trans ?_))) (.cons (dp_tints (SqT.of ((ng_at f2 n2).trans ?_))) .nil)))
              · exact hget (sm_up ht3) e1
              · exact hget (sm_up ht3) upd_same
    · rintro σ H3 ⟨kvs, v2, rfl, s3, hg3, kv3⟩
      walk_at "rd"
      exact k g kvs H3 s3 hg hg3 kv3
end

/-! ### ascending lists, rules that a Kind takes -/
def AscB (lo hi : Int) (cs : List Int) : Prop := cs.Pairwise (· < ·) ∧ ∀ x ∈ cs, lo ≤ x ∧ x < hi
theorem ascB_nil {lo hi : Int} : AscB lo hi [] := ⟨.nil, fun x h => by cases h⟩
theorem ascB_up {lo hi hi' : Int} {cs : List Int} (h : AscB lo hi cs) (q : hi ≤ hi') : AscB lo hi' cs := ⟨h.1, fun x m => ⟨(h.2 x m).1, Int.lt_of_lt_of_le (h.2 x m).2 q⟩⟩
theorem ascB_snoc {lo hi : Int} {cs : List Int} (h : AscB lo hi cs) (q : lo ≤ hi) : AscB lo (hi + 1) (cs ++ [hi]) := by
  refine ⟨List.pairwise_append.mpr ⟨h.1, List.pairwise_singleton _ _, fun a ha b hb => ?_⟩, fun x m => ?_⟩
  · rw [List.mem_singleton.mp hb]
    exact (h.2 a ha).2
  · rcases List.mem_append.mp m with m | m
    · have := h.2 x m
      omega
    · rw [List.mem_singleton.mp m]
      omega
theorem ascB_filter {lo hi : Int} {cs : List Int} (f : Int → Bool) (h : AscB lo hi cs) : AscB lo hi (cs.filter f) := ⟨h.1.filter f, fun x m => h.2 x (List.mem_filter.mp m).1⟩
theorem ascB_len {lo : Int} : ∀ {cs : List Int} {hi : Int}, AscB lo hi cs → lo ≤ hi → (cs.length : Int) ≤ hi - lo
  | [], hi, _, h => by simp; omega
  | c :: r, hi, h, q => by
    obtain ⟨h1, h2⟩ := h
    have hc := h2 c (List.mem_cons_self ..)
    have hr : AscB (c + 1) hi r := ⟨(List.pairwise_cons.mp h1).2, fun x m => ⟨(List.pairwise_cons.mp h1).1 x m, (h2 x (List.mem_cons_of_mem _ m)).2⟩⟩
    have := ascB_len hr (by omega)
    rw [List.length_cons]
    omega
def GoodR : Rule → Prop
  | none => True
  | some (m, ls) => (∀ ms, m = some ms → AscB 0 41 ms) ∧ AscB 1 10 ls
def RsOk (rs : List Rule) : Prop := ∀ a, GoodR (ruleA rs a)
def RsFor (rs : List Rule) (ps : List (Int × Int)) : Prop := ∀ k, k < ps.length → ruleA rs (labA ps k) ≠ none
theorem ruleA_set {rs : List Rule} {j : Nat} {r : Rule} (hj : j < rs.length) (a : Int) : ruleA (rs.set j r) a = if a.toNat = j then r else ruleA rs a := by
  unfold ruleA
  rw [List.getElem?_set]
  by_cases h : a.toNat = j
  · rw [if_pos h, if_pos h.symm, if_pos hj]
    rfl
  · rw [if_neg h, if_neg (fun e => h e.symm)]
theorem sm_but {G H H' : Hp} {p : Addr} (s : Same G H) (h : G p = none) (b : But p H H') : Same G H' := fun q o e => b q o (ne_of_none e h) (s q o e)
theorem sm_wo2 {G H : Hp} {p : Addr} (s : Same G H) (h : G p = none) : Same G (wo H p) := fun q o e => by rw [wo_ne (ne_of_none e h)]; exact s q o e
theorem dps_map_set {K : PySem.W.Frag} {H : Hp} {us : List V} {rs : List Rule} {v : V} {r : Rule} (j : Nat) (h : DpAll K H us (rs.map dR)) (hv : Dp K H v (dR r)) : DpAll K H (us.set j v) ((rs.set j r).map dR) := by
  rw [List.map_set]
  exact dps_set hv j h
section
variable {P : Program} {w : World} {K : PySem.W.Frag} {mg : Str → Option Value} {base : Heap}
def sp_law_rules (K : PySem.W.Frag) : Sp := fun vs H Q _ => ∃ (p : Addr) (ns : List Int) (t : V) (ps : List (Int × Int)) (G : Hp), vs = [.ref p, t] ∧ H p = some (iLs ns) ∧ PoolOk ns ∧ Same G H ∧ G p = none ∧ NodesAt K G t ps ∧ ps.length ≤ 30 ∧ LabOk ps ∧
  ∀ (r : Addr) (us : List V) (rs : List Rule) (ms : List Int) (G' H' : Hp), Same G G' → Same G' H' → G' p = none → G' r = none → r ≠ p → H' p = some (iLs ms) → PoolOk ms → H' r = some (.lst us) → DpAll K G' us (rs.map dR) → rs.length = 10 → RsOk rs → RsFor rs ps → Q (.ref r) H'
theorem ok_law_rules (T : Tx K mg) : FnOk P w K mg base CX0 2 T.d_law_rules.a T.d_law_rules.fd P_law_rules (sp_law_rules K) := by
  refine T.d_law_rules.F.ok sc_law_rules (fun vs H Q E h => ?_) (fun cdv A outer s H vs Q E hr h => ?_)
  · obtain ⟨_, _, _, _, _, rfl, _⟩ := h
    rfl
  · obtain ⟨p, ns, t, ps, G, rfl, hp, hok, sG, gp, hs, hl, hlab, k⟩ := h
    refine ⟨_, ((pss_cons (ps_set (i := 2) sc_law_rules.nd rfl (by first | exact Or.inl rfl | exact Or.inr rfl) (pe_op op_rep (pe_lst (pa_cons pe_non pa_nil)) pe_int))
  (pss_cons (ps_for PassesOwn.never rfl (pi_range2 rfl T.b_range (pa_cons pe_int (pa_cons pe_int pa_nil))) (pg_name (i := 3) sc_law_rules.nd rfl (by first | exact Or.inl rfl | exact Or.inr rfl)) 
    (pss_cons (ps_set (i := 5) sc_law_rules.nd rfl (by first | exact Or.inl rfl | exact Or.inr rfl) (pe_lc (own := [("v", 4)]) (g := gName 4) rfl sc_law_rules.nd (pi_range1 rfl T.b_range (pa_cons (pe_callB (r := cLen K) k_len (by rfl) T.b_len (by decide +kernel) (pa_cons (pv 1) pa_nil)) pa_nil)) (blkOk_by (own := [("v", 4)]) (N := N_law_rules) (sc := defScope s_law_rules) (by decide +kernel)) (fun _ _ _ _ _ => (pg_name (i := 4) sc_law_rules.nd rfl (by first | exact Or.inl rfl | exact Or.inr rfl))) (fun _ _ _ _ _ => pts_one (pt_cmpR op_eq (pe_ix (r := rIxL K) ix_list (pe_ix (r := rIxL K) ix_list (pv 1) (pv 4) (fun _ _ => rfl)) pe_int (fun _ _ => rfl)) (pv 3) (nomark _))) (fun _ _ _ _ _ => (pv 4))))
    (pss_cons (ps_set (i := 6) sc_law_rules.nd rfl (by first | exact Or.inl rfl | exact Or.inr rfl) (pe_lc (own := [("v", 4)]) (g := gName 4) rfl sc_law_rules.nd (pi_list (pv 5)) (blkOk_by (own := [("v", 4)]) (N := N_law_rules) (sc := defScope s_law_rules) (by decide +kernel)) (fun _ _ _ _ _ => (pg_name (i := 4) sc_law_rules.nd rfl (by first | exact Or.inl rfl | exact Or.inr rfl))) (fun _ _ _ _ _ => pts_nil) (fun _ _ _ _ _ => (pe_callB (r := cLen K) k_len (by rfl) T.b_len (by decide +kernel) (pa_cons (pe_call (ok_law_kids T) (hr.mono (by decide)) rfl T.d_law_kids.g T.d_law_kids.F.kp T.d_law_kids.b .nil pass0 (pa_cons (pv 1) (pa_cons (pv 4) (pa_cons (pe_un un_neg pe_int) pa_nil)))) pa_nil)))))
    (pss_cons (ps_set (i := 8) sc_law_rules.nd rfl (by first | exact Or.inl rfl | exact Or.inr rfl) (pe_lc (own := [("k", 7)]) (g := gName 7) rfl sc_law_rules.nd (pi_range2 rfl T.b_range (pa_cons pe_int (pa_cons (pe_callB (r := cLen K) k_len (by rfl) T.b_len (by decide +kernel) (pa_cons (pv 1) pa_nil)) pa_nil))) (blkOk_by (own := [("k", 7)]) (N := N_law_rules) (sc := defScope s_law_rules) (by decide +kernel)) (fun _ _ _ _ _ => (pg_name (i := 7) sc_law_rules.nd rfl (by first | exact Or.inl rfl | exact Or.inr rfl))) (fun _ _ _ _ _ => pts_one (pt_cmpR (r := rIn K false) op_in_seq (pe_ix (r := rIxL K) ix_list (pe_ix (r := rIxL K) ix_list (pv 1) (pv 7) (fun _ _ => rfl)) pe_int (fun _ _ => rfl)) (pv 5) rfl)) (fun _ _ _ _ _ => (pe_ix (r := rIxL K) ix_list (pe_ix (r := rIxL K) ix_list (pv 1) (pv 7) (fun _ _ => rfl)) pe_int (fun _ _ => rfl)))))
    (pss_cons (ps_expr (pe_bm PySem.F.plainAttrs_list PySem.F.slot_list_append PySem.F.type_list_append mt_append (pv 6) (pa_cons (pe_call (ok_law_draw T) (hr.mono (by decide)) rfl T.d_law_draw.g T.d_law_draw.F.kp T.d_law_draw.b .nil pass0 (pa_cons (pv 0) (pa_cons pe_int pa_nil))) pa_nil)))
    (pss_cons (ps_expr (pe_bm PySem.F.plainAttrs_list PySem.F.slot_list_append PySem.F.type_list_append mt_append (pv 8) (pa_cons (pe_op op_add pe_int (pe_call (ok_law_draw T) (hr.mono (by decide)) rfl T.d_law_draw.g T.d_law_draw.F.kp T.d_law_draw.b .nil pass0 (pa_cons (pv 0) (pa_cons pe_int pa_nil)))) pa_nil)))
    (pss_cons (ps_setLc (i := 10) (own := [("c", 9)]) (g := gName 9) rfl sc_law_rules.nd rfl rfl (sw_true rfl rfl rfl (by decide +kernel)) (pi_range1 rfl T.b_range (pa_cons (pe_op op_add (pe_callB (r := cLen K) k_len (by rfl) T.b_len (by decide +kernel) (pa_cons (pv 1) pa_nil)) pe_int) pa_nil)) (blkOk_by (own := [("c", 9)]) (N := N_law_rules) (sc := defScope s_law_rules) (by decide +kernel)) (fun _ _ _ _ _ => (pg_name (i := 9) sc_law_rules.nd rfl (by first | exact Or.inl rfl | exact Or.inr rfl))) (fun _ _ _ _ _ => pts_one (pt_cmpR (r := rIn K false) op_in_seq (pv 9) (pv 6) rfl)) (fun _ _ _ _ _ => (pv 9)))
    (pss_cons (ps_if (pt_cmpR op_eq (pe_call (ok_law_draw T) (hr.mono (by decide)) rfl T.d_law_draw.g T.d_law_draw.F.kp T.d_law_draw.b .nil pass0 (pa_cons (pv 0) (pa_cons pe_int pa_nil))) pe_int (nomark _)) 
      (pss_one (ps_set (i := 10) sc_law_rules.nd rfl (by first | exact Or.inl rfl | exact Or.inr rfl) pe_non)) pss_nil)
    (pss_one (ps_if (PW.pt (pw_or (pt_cmpR op_gt (pe_callB (r := cLen K) k_len (by rfl) T.b_len (by decide +kernel) (pa_cons (pv 6) pa_nil)) pe_int (nomark _)) (pw_or1 (pt_cmpR op_eq (pe_call (ok_law_draw T) (hr.mono (by decide)) rfl T.d_law_draw.g T.d_law_draw.F.kp T.d_law_draw.b .nil pass0 (pa_cons (pv 0) (pa_cons pe_int pa_nil))) pe_int (nomark _))))) 
      (pss_one (ps_asg (pe_lst (pa_cons (pv 10) (pa_cons (pe_lc (own := [("b", 11)]) (g := gName 11) rfl sc_law_rules.nd (pi_range2 rfl T.b_range (pa_cons pe_int (pa_cons pe_int pa_nil))) (blkOk_by (own := [("b", 11)]) (N := N_law_rules) (sc := defScope s_law_rules) (by decide +kernel)) (fun _ _ _ _ _ => (pg_name (i := 11) sc_law_rules.nd rfl (by first | exact Or.inl rfl | exact Or.inr rfl))) (fun _ _ _ _ _ => pts_one (pt_cmpR (r := rIn K false) op_in_seq (pv 11) (pv 8) rfl)) (fun _ _ _ _ _ => (pv 11))) pa_nil))) (pg_sub (pv 2) (pv 3) set_list))) pss_nil))))))))))
  (pss_one (ps_ret (pv 2)))))), ?_⟩
    try simp only [nxK, cxK]
    obtain ⟨ta, xs, rfl, hta, hx⟩ := nd_list hs
    walk_at "rd"
    intro q1 hq1
    have n1 := ne_fr hp hq1
    walk_at "rd"
    intro ra hra
    have nra : ra ≠ p := ne_fr (by walk_at "hg") hra
    have fra : G ra = none := by walk_at "fr"
    walk_at "rd"
    refine ⟨1, 10, rfl, by decide, forJ walkR2 ⟨fun i σ H' => ∃ (G4 : Hp) (us : List V) (rs : List Rule) (ms : List Int) (v3 v4 v5 v6 v7 v8 v9 v10 v11 : Option V),
      σ = [some (.ref p), some (.ref ta), some (.ref ra), v3, v4, v5, v6, v7, v8, v9, v10, v11] ∧ Same G G4 ∧ Same G4 H' ∧ G4 p = none ∧ G4 ra = none ∧ H' p = some (iLs ms) ∧ PoolOk ms ∧ H' ra = some (.lst us) ∧ DpAll K G4 us (rs.map dR) ∧ rs.length = 10 ∧ RsOk rs ∧
      (∀ k, k < ps.length → labA ps k ≤ i → ruleA rs (labA ps k) ≠ none), ?_, fun _ _ _ _ _ => trivial, ?_, ?_⟩⟩
    · have hru : ∀ a : Int, ruleA (List.replicate 10 none) a = none := fun a => by
        unfold ruleA
        rw [List.getElem?_replicate]
        split <;> rfl
      refine ⟨G, List.replicate 10 .non, List.replicate 10 none, ns, none, none, none, none, none, none, none, none, none, rfl, Same.refl _, by walk_at "sm", gp, fra, by walk_at "hg", hok, upd_same, ?_, rfl, fun a => by rw [hru]; trivial, fun k hk h0 => ?_⟩
      · rw [List.map_replicate]
        exact dps_rep .non 10
      · have := (hlab k hk).1
        omega
    · rintro i x σ H3 H4 hi ⟨G4, us, rs, ms3, v3, v4, v5, v6, v7, v8, v9, v10, v11, rfl, sGG, sG4, gp4, gra4, hp4, hok4, hra4, hus, hrl, hrs, hfor⟩ ⟨rfl, rfl⟩
      have hi' : i < 9 := hi
      have hs4 : NodesAt K H4 (.ref ta) ps := (hs.up sGG).up sG4
      have hta4 : SqL K H4 ta xs := (sGG.trans sG4).seq hta
      walk_at "rd"
      refine ⟨_, rfl, by omega, by omega, lcJ walkR (fun _ _ => trivial) ⟨by omega, fun D1 hD1 => ⟨fun i' acc _ => acc = (iN ((List.range i').filter fun k => decide (labA ps k = 1 + (i : Int)))).map V.int, rfl, ?_, ?_⟩⟩⟩
      · rintro i' x acc H2 H3 hi2 ⟨rfl, rfl⟩ s1 hD' hl' rfl
        walk_at "rd"
        refine r_nd (hs4.up s1) (by omega) (by omega) fun u hu => ?_
        walk_at "rd"
        refine r_nd1 hu ?_
        walk_at "rd"
        rw [Int.toNat_natCast]
        refine ifd (fun e => ?_) (fun e => ?_)
        · walk_at "rd"
          refine lcIn s1 hD1 hD' hl' (by omega) ?_
          rw [range_filter_snoc, if_pos (decide_eq_true e), iN_snoc, List.map_append]
          rfl
        · refine lcOut s1 hD' hl' ?_
          rw [range_filter_snoc, if_neg (by rw [decide_eq_false e]; decide), List.append_nil]
      · rintro acc H5 s5 hD5 hl5 rfl
        generalize hsm : (List.range (xs.length : Int).toNat).filter (fun k => decide (labA ps k = 1 + (i : Int))) = sm at *
        have sml : sm.length ≤ 30 := by
          rw [← hsm]
          have := List.length_filter_le (fun k => decide (labA ps k = 1 + (i : Int))) (List.range (xs.length : Int).toNat)
          rw [List.length_range] at this
          omega
        have hsq5 : SqL K H5 D1 ((iN sm).map V.int) := SqL.of hD5
        have hs5 : NodesAt K H5 (.ref ta) ps := hs4.up s5
        have hta5 : SqL K H5 ta xs := s5.seq hta4
        have hp5 : H5 p = some (iLs ms3) := s5 _ _ hp4
        have hra5 : H5 ra = some (.lst us) := s5 _ _ hra4
        walk_at "rd"
        refine ⟨_, rfl, ⟨_, hsq5⟩, lcJ walk_list (fun H' s => s.seq hsq5) ⟨by rw [List.length_map, iN_len]; omega, fun D2 hD2 => ⟨fun j acc _ => ∃ cs : List Int, acc = cs.map V.int ∧ cs.length = j, ⟨[], rfl, rfl⟩, ?_, ?_⟩⟩⟩
        · rintro j x acc H6 H7 hj ⟨rfl, hxj⟩ s6 hD6 hl6 ⟨cs, rfl, hcs⟩
          obtain ⟨n, hn, rfl⟩ := map_get hxj
          obtain ⟨kk, hkk, rfl⟩ := map_get hn
          walk_at "rd"
          refine iteT ?_
          walk_at "rd"
          refine ⟨.ref ta, ps, (kk : Int), rfl, hs5.up s6, by omega, fun kl H8 s8 hkl0 hkl => ?_⟩
          have hkl8 : SqL K H8 kl ((iN (kidN ps (kk : Nat))).map V.int) := SqL.of hkl
          walk_at "rd"
          rw [List.length_map, iN_len] at hj
          exact lcIn (s6.trans s8) hD2 (s8 _ _ hD6) hl6 (by omega) ⟨cs ++ [((((iN (kidN ps (kk : Nat))).map V.int).length : Nat) : Int)], by rw [List.map_append]; rfl, by rw [List.length_append, hcs]; rfl⟩
        · rintro acc H6 s6 hD6 hl6 ⟨ns6, rfl, hcs⟩
          rw [List.length_map, iN_len] at hcs
          have hs6 : NodesAt K H6 (.ref ta) ps := hs5.up s6
          have hta6 : SqL K H6 ta xs := s6.seq hta5
          have hsq6 : SqL K H6 D1 ((iN sm).map V.int) := s6.seq hsq5
          have hp6 : H6 p = some (iLs ms3) := s6 _ _ hp5
          have hra6 : H6 ra = some (.lst us) := s6 _ _ hra5
          have n2 : D2 ≠ p := ne_fr hp5 hD2
          have n2r : D2 ≠ ra := ne_fr hra5 hD2
          walk_at "rd"
          refine ⟨1, _, rfl, by omega, lcJ walkR2 (fun _ _ => trivial) ⟨by omega, fun D3 hD3 => ⟨fun j acc _ => ∃ cs : List Int, acc = cs.map V.int, ⟨[], rfl⟩, ?_, ?_⟩⟩⟩
          · rintro j x acc H7 H8 hj ⟨rfl, rfl⟩ s7 hD7 hl7 ⟨cs, rfl⟩
            walk_at "rd"
            refine r_nd (hs6.up s7) (by omega) (by omega) fun u hu => ?_
            walk_at "rd"
            refine r_nd0 hu ?_
            walk_at "rd"
            refine ifd (fun e => ?_) (fun e => ?_)
            · walk_at "rd"
              refine r_nd (hs6.up s7) (by omega) (by omega) fun u hu => ?_
              walk_at "rd"
              refine r_nd1 hu ?_
              exact lcIn s7 hD3 hD7 hl7 (by omega) ⟨cs ++ [_], by rw [List.map_append]; rfl⟩
            · exact lcOut s7 hD7 hl7 ⟨cs, rfl⟩
          · rintro acc H7 s7 hD7 hl7 ⟨bs, rfl⟩
            have n3 : D3 ≠ p := ne_fr hp6 hD3
            have n3r : D3 ≠ ra := ne_fr hra6 hD3
            have n32 : D3 ≠ D2 := ne_fr hD6 hD3
            have hD27 : H7 D2 = some (.lst (ns6.map V.int)) := s7 _ _ hD6
            have hp7 : H7 p = some (iLs ms3) := s7 _ _ hp6
            have hra7 : H7 ra = some (.lst us) := s7 _ _ hra6
            have sG7 : Same G4 H7 := ((sG4.trans s5).trans s6).trans s7
            have hbl : bs.length ≤ 30 := by
              rw [List.length_map] at hl7
              omega
            walk_at "rd"
            refine ⟨p, ms3, 4, rfl, hp7, hok4, by omega, by omega, fun d8 ms8 H8 d80 d81 ok8 b8 hp8 => ?_⟩
            have hD28 : H8 D2 = some (.lst (ns6.map V.int)) := hbut b8 n2 hD27
            have hD38 : H8 D3 = some (.lst (bs.map V.int)) := hbut b8 n3 hD7
            have hra8 : H8 ra = some (.lst us) := hbut b8 nra hra7
            have sG8 : Same G4 H8 := sm_but sG7 gp4 b8
            walk_at "rd"
            have g2 : G4 D2 = none := by
              refine Same.free ?_ hD2
              exact sG4.trans s5
            have g3 : G4 D3 = none := by
              refine Same.free ?_ hD3
              exact (sG4.trans s5).trans s6
            refine ⟨p, ms8, 9, rfl, by walk_at "hg", ok8, by omega, by omega, fun d9 ms9 H9 d90 d91 ok9 b9 hp9 => ?_⟩
            have hD29 : H9 D2 = some (.lst (ns6.map V.int ++ [V.int d8])) := hbut b9 n2 upd_same
            have hD39 : H9 D3 = some (.lst (bs.map V.int)) := hbut b9 n3 ((upd_ne n32).trans hD38)
            have hra9 : H9 ra = some (.lst us) := hbut b9 nra ((upd_ne n2r.symm).trans hra8)
            have sG9 : Same G4 H9 := sm_but (sm_mut sG8 g2) gp4 b9
            have hta9 : SqL K H9 ta xs := (sGG.trans sG9).seq hta
            walk_at "rd"
            have sG10 : Same G4 (upd H9 D3 (HO.lst (bs.map V.int ++ [V.int (1 + d9)]))) := sm_mut sG9 g3
            have hta10 : SqL K (upd H9 D3 (HO.lst (bs.map V.int ++ [V.int (1 + d9)]))) ta xs := (sGG.trans sG10).seq hta
            have hD210 : (upd H9 D3 (HO.lst (bs.map V.int ++ [V.int (1 + d9)]))) D2 = some (.lst (ns6.map V.int ++ [V.int d8])) := (upd_ne n32.symm).trans hD29
            have hD310 : (upd H9 D3 (HO.lst (bs.map V.int ++ [V.int (1 + d9)]))) D3 = some (.lst (bs.map V.int ++ [V.int (1 + d9)])) := upd_same
            have hra10 : (upd H9 D3 (HO.lst (bs.map V.int ++ [V.int (1 + d9)]))) ra = some (.lst us) := (upd_ne n3r.symm).trans hra9
            have hp10 : (upd H9 D3 (HO.lst (bs.map V.int ++ [V.int (1 + d9)]))) p = some (iLs ms9) := (upd_ne n3.symm).trans hp9
            generalize upd H9 D3 (HO.lst (bs.map V.int ++ [V.int (1 + d9)])) = H10 at *
            have e2 : ns6.map V.int ++ [V.int d8] = (ns6 ++ [d8]).map V.int := by rw [List.map_append]; rfl
            have e3 : bs.map V.int ++ [V.int (1 + d9)] = (bs ++ [1 + d9]).map V.int := by rw [List.map_append]; rfl
            rw [e2] at hD210
            rw [e3] at hD310
            have l2 : (ns6 ++ [d8]).length = sm.length + 1 := by rw [List.length_append, hcs]; rfl
            generalize ns6 ++ [d8] = ns at *
            generalize bs ++ [1 + d9] = bl at *
            walk_at "rd"
            refine ⟨_, rfl, by omega, by omega, lcJ walkR (fun _ _ => trivial) ⟨by omega, fun D4 hD4 => ⟨fun j acc _ => ∃ cs : List Int, acc = cs.map V.int ∧ AscB 0 j cs, ⟨[], rfl, ascB_nil⟩, ?_, ?_⟩⟩⟩
            · rintro j x acc H11 H12 hj ⟨rfl, rfl⟩ s11 hD11 hl11 ⟨cs, rfl, hcs2⟩
              have hq : SqL K H12 D2 (ns.map V.int) := s11.seq (SqL.of hD210)
              walk_at "rd"
              refine ifd (fun e => ?_) (fun e => ?_)
              · walk_at "rd"
                exact lcIn s11 hD4 hD11 hl11 (by omega) ⟨cs ++ [(j : Int)], by rw [List.map_append]; rfl, ascB_snoc hcs2 (by omega)⟩
              · exact lcOut s11 hD11 hl11 ⟨cs, rfl, ascB_up hcs2 (by omega)⟩
            · rintro acc H11 s11 hD11 hl11 ⟨ml, rfl, hml⟩
              have n4 : D4 ≠ p := ne_fr hp10 hD4
              have n4r : D4 ≠ ra := ne_fr hra10 hD4
              have hD211 : H11 D2 = some (.lst (ns.map V.int)) := s11 _ _ hD210
              have hD311 : H11 D3 = some (.lst (bl.map V.int)) := s11 _ _ hD310
              have hra11 : H11 ra = some (.lst us) := s11 _ _ hra10
              have hp11 : H11 p = some (iLs ms9) := s11 _ _ hp10
              have sG11 : Same G4 H11 := sG10.trans s11
              have hml2 : AscB 0 41 ml := ascB_up hml (by omega)
              walk_at "rd"
              refine ⟨p, ms9, 4, rfl, hp11, ok9, by omega, by omega, fun d12 ms12 H12 d120 d121 ok12 b12 hp12 => ?_⟩
              have hD212 : H12 D2 = some (.lst (ns.map V.int)) := hbut b12 n2 hD211
              have hD312 : H12 D3 = some (.lst (bl.map V.int)) := hbut b12 n3 hD311
              have hD412 : H12 D4 = some (.lst (ml.map V.int)) := hbut b12 n4 hD11
              have hra12 : H12 ra = some (.lst us) := hbut b12 nra hra11
              have sG12 : Same G4 H12 := sm_but sG11 gp4 b12
              walk_at "rd"
              have hul : us.length = 10 := by rw [dps_len hus, List.length_map, hrl]
              have ei : (1 + (i : Int)).toNat = i + 1 := by omega
              refine ifd (fun e => ?_) (fun e => ?_)
              all_goals walk_at "rn"
              case' refine_1 =>
                have hum : ∀ G' : Hp, (∀ b o, H12 b = some o → b ≠ p → b ≠ ra → G' b = some o) → Dp K G' V.non (dM none) := fun _ _ => .non
                have hgm : ∀ m2, (none : Option (List Int)) = some m2 → AscB 0 41 m2 := fun _ e => by cases e
              case' refine_2 =>
                have hum : ∀ G' : Hp, (∀ b o, H12 b = some o → b ≠ p → b ≠ ra → G' b = some o) → Dp K G' (V.ref D4) (dM (some ml)) := fun G' h => dp_ints (SqL.of (h _ _ hD412 n4 n4r))
                have hgm : ∀ m2, some ml = some m2 → AscB 0 41 m2 := fun _ e => by cases e; exact hml2
              all_goals
                walk_at "rd"
                refine ifd (fun e5 => ?_) (fun e5 => ?_)
              case' refine_1.refine_1 =>
                have hD3X := hD312
                have hraX := hra12
                have hpX := hp12
                have okX := ok12
                have bX : But p H12 H12 := But.refl _
                have sGX := sG12
                walk_at "rd"
                refine iteT ?_
              case' refine_2.refine_1 =>
                have hD3X := hD312
                have hraX := hra12
                have hpX := hp12
                have okX := ok12
                have bX : But p H12 H12 := But.refl _
                have sGX := sG12
                walk_at "rd"
                refine iteT ?_
              case' refine_1.refine_2 =>
                walk_at "rd"
                refine ⟨p, ms12, 3, rfl, hp12, ok12, by omega, by omega, fun d13 ms13 H13 d130 d131 okX bX hpX => ?_⟩
                have hD3X : H13 D3 = some (.lst (bl.map V.int)) := hbut bX n3 hD312
                have hraX : H13 ra = some (.lst us) := hbut bX nra hra12
                have sGX : Same G4 H13 := sm_but sG12 gp4 bX
                walk_at "rd"
                refine ifd (fun e7 => ?st1) (fun e7 => ?no1)
              case' refine_2.refine_2 =>
                walk_at "rd"
                refine ⟨p, ms12, 3, rfl, hp12, ok12, by omega, by omega, fun d13 ms13 H13 d130 d131 okX bX hpX => ?_⟩
                have hD3X : H13 D3 = some (.lst (bl.map V.int)) := hbut bX n3 hD312
                have hraX : H13 ra = some (.lst us) := hbut bX nra hra12
                have sGX : Same G4 H13 := sm_but sG12 gp4 bX
                walk_at "rd"
                refine ifd (fun e7 => ?st2) (fun e7 => ?no2)
              case no1 | no2 =>
                walk_at "rd"
                refine ⟨G4, us, rs, _, _, _, _, _, _, _, _, _, _, rfl, sGG, sGX, gp4, gra4, hpX, okX, hraX, hus, hrl, hrs, fun kk hkk hle => ?_⟩
                by_cases hlt : labA ps kk ≤ (i : Int)
                · exact hfor kk hkk hlt
                · exfalso
                  have hin : kk ∈ sm := by
                    rw [← hsm]
                    refine List.mem_filter.mpr ⟨List.mem_range.mpr (by omega), decide_eq_true (by omega)⟩
                  have := List.length_pos_of_mem hin
                  rw [List.length_map] at e5
                  omega
              all_goals
                walk_at "rd"
                refine ⟨1, 10, rfl, by decide, lcJ walkR2 (fun _ _ => trivial) ⟨by decide, fun D5 hD5 => ⟨fun j acc _ => ∃ cs : List Int, acc = cs.map V.int ∧ AscB 1 (1 + (j : Int)) cs, ⟨[], rfl, ascB_nil⟩, ?_, ?_⟩⟩⟩
                · rintro j x acc H14 H15 hj ⟨rfl, rfl⟩ s14 hD14 hl14 ⟨cs, rfl, hcs2⟩
                  have hj' : j < 9 := hj
                  have hq : SqL K H15 D3 (bl.map V.int) := s14.seq (SqL.of hD3X)
                  walk_at "rd"
                  refine ifd (fun e => ?_) (fun e => ?_)
                  · walk_at "rd"
                    exact lcIn s14 hD5 hD14 hl14 (by omega) ⟨cs ++ [1 + (j : Int)], by rw [List.map_append]; rfl, ascB_up (ascB_snoc hcs2 (by omega)) (by omega)⟩
                  · exact lcOut s14 hD14 hl14 ⟨cs, rfl, ascB_up hcs2 (by omega)⟩
                · rintro acc H14 s14 hD14 hl14 ⟨ls, rfl, hls⟩
                  have hls2 : AscB 1 10 ls := ascB_up hls (by decide)
                  have n5 : D5 ≠ p := ne_fr hpX hD5
                  have n5r : D5 ≠ ra := ne_fr hraX hD5
                  have hp14 : H14 p = some (iLs _) := s14 _ _ hpX
                  have hra14 : H14 ra = some (.lst us) := s14 _ _ hraX
                  walk_at "rd"
                  intro q6 hq6
                  have n6 : q6 ≠ p := ne_fr hp14 hq6
                  have n6r : q6 ≠ ra := ne_fr hra14 hq6
                  walk_at "rd"
                  rw [ei]
                  have sX : ∀ um : V, Same G4 (upd H14 q6 (HO.lst [um, V.ref D5])) := fun um => (sGX.trans s14).trans (sm_up hq6)
                  have sW : ∀ um : V, Same G4 (wo (wo (upd H14 q6 (HO.lst [um, V.ref D5])) p) ra) := fun um => sm_wo2 (sm_wo2 (sX um) gp4) gra4
                  have hall : ∀ (um : V) b o, H12 b = some o → b ≠ p → b ≠ ra → wo (wo (upd H14 q6 (HO.lst [um, V.ref D5])) p) ra b = some o := fun um b o e np nr => (wo_ne nr).trans ((wo_ne np).trans (hget (s14.trans (sm_up hq6)) (bX b o np e)))
                  have e6 : ∀ um : V, wo (wo (upd H14 q6 (HO.lst [um, V.ref D5])) p) ra q6 = some (.lst [um, V.ref D5]) := fun um => (wo_ne n6r).trans ((wo_ne n6).trans upd_same)
                  have e7 : ∀ um : V, wo (wo (upd H14 q6 (HO.lst [um, V.ref D5])) p) ra D5 = some (.lst (ls.map V.int)) := fun um => (wo_ne n5r).trans ((wo_ne n5).trans (hget (sm_up hq6) hD14))
                  refine ⟨_, us.set (i + 1) (.ref q6), rs.set (i + 1) (some (_, ls)), _, _, _, _, _, _, _, _, _, _, rfl, sGG.trans (sW _), sm_mut (Same.trans sm_wo sm_wo) wo_at, (wo_ne nra.symm).trans wo_at, wo_at, (upd_ne nra.symm).trans ((upd_ne n6.symm).trans hp14), okX, upd_same,
                    dps_map_set (i + 1) (dps_up (sW _) hus) (Dp.lst (SqL.of (e6 _)) (.cons (hum _ (hall _)) (.cons (dp_ints (SqL.of (e7 _))) .nil))), by rw [List.length_set]; exact hrl, fun a => ?_, fun kk hkk hle => ?_⟩
                  · rw [ruleA_set (by omega)]
                    split
                    · exact ⟨hgm, hls2⟩
                    · exact hrs a
                  · rw [ruleA_set (by omega)]
                    split
                    · exact fun e => by cases e
                    · exact hfor kk hkk (by have := hlab kk hkk; omega)
    · rintro σ H3 ⟨G4, us, rs, ms3, v3, v4, v5, v6, v7, v8, v9, v10, v11, rfl, sGG, sG4, gp4, gra4, hp4, hok4, hra4, hus, hrl, hrs, hfor⟩
      walk_at "rd"
      exact k ra us rs ms3 G4 H3 sGG sG4 gp4 gra4 nra hp4 hok4 hra4 hus hrl hrs fun k hk => hfor k hk (hlab k hk).2
end

def UpOk (ps : List (Int × Int)) : Prop := ∀ k, k < ps.length → upA ps k < ps.length
theorem take_filter_in {α : Type} {f : α → Bool} {l : List α} {j : Nat} {x : α} (h : l[j]? = some x) (e : f x = true) : (l.take (j + 1)).filter f = (l.take j).filter f ++ [x] := by
  rw [List.take_add_one, h, List.filter_append]
  simp [e]
theorem take_filter_out {α : Type} {f : α → Bool} {l : List α} {j : Nat} {x : α} (h : l[j]? = some x) (e : f x = false) : (l.take (j + 1)).filter f = (l.take j).filter f := by
  rw [List.take_add_one, h, List.filter_append]
  simp [e]
section
variable {K : PySem.W.Frag} {G H : Hp} {Q : VK} {x : V}
theorem r_ixdG {ds : List PyData} {i : Int} {d : PyData} (s : Same G H) (h : Dp K G x (.list ds)) (h0 : 0 ≤ i) (e : ds[i.toNat]? = some d) (k : ∀ v, Dp K G v d → Q v H) : rIxL K x (.int i) H Q := by
  have hl := (List.getElem?_eq_some_iff.mp e).1
  obtain ⟨a, vs, rfl, sq, t⟩ := dp_list' h
  refine r_ix (s.seq sq) h0 (by rw [dps_len t]; omega) fun v ev => ?_
  obtain ⟨d', e1, e2⟩ := dps_get' t ev
  rw [e] at e1
  cases e1
  exact k v e2
theorem r_ruleG {r : Addr} {us : List V} {rs : List Rule} {i : Int} (hr : H r = some (.lst us)) (hus : DpAll K G us (rs.map dR)) (h0 : 0 ≤ i) (h1 : i < rs.length) (k : ∀ u, Dp K G u (dR (ruleA rs i)) → Q u H) : rIxL K (.ref r) (.int i) H Q := by
  refine r_ix (SqL.of hr) h0 (by rw [dps_len hus, List.length_map]; exact h1) fun v ev => ?_
  obtain ⟨d, e1, e2⟩ := dps_get' hus ev
  refine k v ?_
  have hn : i.toNat < rs.length := by omega
  rw [List.getElem?_map, List.getElem?_eq_getElem hn] at e1
  unfold ruleA
  rw [List.getElem?_eq_getElem hn]
  cases e1
  exact e2
theorem r_rMG {m : Option (List Int)} {ls : List Int} (s : Same G H) (h : Dp K G x (dR (some (m, ls)))) (k : ∀ u, Dp K G u (dM m) → Q u H) : rIxL K x (.int 0) H Q := r_ixdG (ds := [dM m, dI ls]) s h (by decide) rfl k
theorem r_rLG {m : Option (List Int)} {ls : List Int} (s : Same G H) (h : Dp K G x (dR (some (m, ls)))) (k : ∀ a, SqL K G a (ls.map V.int) → Q (.ref a) H) : rIxL K x (.int 1) H Q := r_ixdG (ds := [dM m, dI ls]) s h (by decide) rfl fun u hu => by
  obtain ⟨a, rfl, hs⟩ := dp_ints' hu
  exact k a hs
end
section
variable {P : Program} {w : World} {K : PySem.W.Frag} {mg : Str → Option Value} {base : Heap}
def sp_law_spoilt (K : PySem.W.Frag) : Sp := fun vs H Q _ => ∃ (p ra r : Addr) (t : V) (ns roots : List Int) (us : List V) (rs : List Rule) (ps : List (Int × Int)) (G : Hp), vs = [.ref p, .ref ra, .ref r, t] ∧
  H p = some (iLs ns) ∧ PoolOk ns ∧ Same G H ∧ G p = none ∧ G r = none ∧ r ≠ p ∧ H r = some (.lst us) ∧ DpAll K G us (rs.map dR) ∧ rs.length = 10 ∧ RsOk rs ∧ RsFor rs ps ∧ SqL K G ra (roots.map V.int) ∧ AscB 1 10 roots ∧ NodesAt K G t ps ∧ 1 ≤ ps.length ∧ ps.length ≤ 30 ∧ LabOk ps ∧ UpOk ps ∧
  ∀ (ra' : Addr) (roots' : List Int) (us' : List V) (rs' : List Rule) (ms : List Int) (G' H' : Hp), Same G G' → Same G' H' → G' p = none → G' r = none → H' p = some (iLs ms) → PoolOk ms → H' r = some (.lst us') → DpAll K G' us' (rs'.map dR) → rs'.length = 10 → RsOk rs' → SqL K G' ra' (roots'.map V.int) → AscB 1 10 roots' → Q (.ref ra') H'
theorem ok_law_spoilt (T : Tx K mg) : FnOk P w K mg base CX0 2 T.d_law_spoilt.a T.d_law_spoilt.fd P_law_spoilt (sp_law_spoilt K) := by
  refine T.d_law_spoilt.F.ok sc_law_spoilt (fun vs H Q E h => ?_) (fun cdv A outer s H vs Q E hr h => ?_)
  · obtain ⟨_, _, _, _, _, _, _, _, _, _, rfl, _⟩ := h
    rfl
  · obtain ⟨p, ra, r, t, ns, roots, us, rs, ps, G, rfl, hp, hok, sG, gp, gr, nrp, hr0, hus, hrl, hrs, hfor, hroots, haroots, hs, hl1, hl, hlab, hup, k⟩ := h
    refine ⟨_, ((pss_cons (ps_set (i := 4) sc_law_spoilt.nd rfl (by first | exact Or.inl rfl | exact Or.inr rfl) (pe_call (ok_law_draw T) (hr.mono (by decide)) rfl T.d_law_draw.g T.d_law_draw.F.kp T.d_law_draw.b .nil pass0 (pa_cons (pv 0) (pa_cons (pe_callB (r := cLen K) k_len (by rfl) T.b_len (by decide +kernel) (pa_cons (pv 3) pa_nil)) pa_nil))))
  (pss_cons (ps_set (i := 5) sc_law_spoilt.nd rfl (by first | exact Or.inl rfl | exact Or.inr rfl) (pe_ix (r := rIxL K) ix_list (pe_ix (r := rIxL K) ix_list (pv 3) (pv 4) (fun _ _ => rfl)) pe_int (fun _ _ => rfl)))
  (pss_cons (ps_set (i := 6) sc_law_spoilt.nd rfl (by first | exact Or.inl rfl | exact Or.inr rfl) (pe_ix (r := rIxL K) ix_list (pe_ix (r := rIxL K) ix_list (pv 3) (pe_callB (k_max rfl) (by rfl) T.b_max (by decide +kernel) (pa_cons pe_int (pa_cons (pe_ix (r := rIxL K) ix_list (pe_ix (r := rIxL K) ix_list (pv 3) (pv 4) (fun _ _ => rfl)) pe_int (fun _ _ => rfl)) pa_nil))) (fun _ _ => rfl)) pe_int (fun _ _ => rfl)))
  (pss_cons (ps_set (i := 7) sc_law_spoilt.nd rfl (by first | exact Or.inl rfl | exact Or.inr rfl) (pe_call (ok_law_draw T) (hr.mono (by decide)) rfl T.d_law_draw.g T.d_law_draw.F.kp T.d_law_draw.b .nil pass0 (pa_cons (pv 0) (pa_cons pe_int pa_nil))))
  (pss_cons (ps_if (pt_cmpR op_eq (pv 7) pe_int (nomark _)) 
    (pss_one (ps_asg pe_non (pg_sub (pv 2) (pv 5) set_list))) pss_nil)
  (pss_cons (ps_if (PW.pt (pw_and (pt_cmpR op_eq (pv 7) pe_int (nomark _)) (pw_and1 (pt_cmpR k_notN (pe_ix (r := rIxL K) ix_list (pe_ix (r := rIxL K) ix_list (pv 2) (pv 5) (fun _ _ => rfl)) pe_int (fun _ _ => rfl)) pe_non (nomark _))))) 
    (pss_cons (ps_set (i := 8) sc_law_spoilt.nd rfl (by first | exact Or.inl rfl | exact Or.inr rfl) (pe_callB (r := cLen K) k_len (by rfl) T.b_len (by decide +kernel) (pa_cons (pe_call (ok_law_kids T) (hr.mono (by decide)) rfl T.d_law_kids.g T.d_law_kids.F.kp T.d_law_kids.b .nil pass0 (pa_cons (pv 3) (pa_cons (pv 4) (pa_cons (pe_un un_neg pe_int) pa_nil)))) pa_nil)))
    (pss_cons (ps_setLc (i := 10) (own := [("c", 9)]) (g := gName 9) rfl sc_law_spoilt.nd rfl rfl (sw_true rfl rfl rfl (by decide +kernel)) (pi_list (pe_ix (r := rIxL K) ix_list (pe_ix (r := rIxL K) ix_list (pv 2) (pv 5) (fun _ _ => rfl)) pe_int (fun _ _ => rfl))) (blkOk_by (own := [("c", 9)]) (N := N_law_spoilt) (sc := defScope s_law_spoilt) (by decide +kernel)) (fun _ _ _ _ _ => (pg_name (i := 9) sc_law_spoilt.nd rfl (by first | exact Or.inl rfl | exact Or.inr rfl))) (fun _ _ _ _ _ => pts_one (pt_cmpR op_ne (pv 9) (pv 8) (nomark _))) (fun _ _ _ _ _ => (pv 9)))
    (pss_one (ps_asg (pe_lst (pa_cons (pv 10) (pa_cons (pe_ix (r := rIxL K) ix_list (pe_ix (r := rIxL K) ix_list (pv 2) (pv 5) (fun _ _ => rfl)) pe_int (fun _ _ => rfl)) pa_nil))) (pg_sub (pv 2) (pv 5) set_list))))) pss_nil)
  (pss_cons (ps_if (pt_cmpR op_eq (pv 7) pe_int (nomark _)) 
    (pss_cons (ps_setLc (i := 10) (own := [("b", 11)]) (g := gName 11) rfl sc_law_spoilt.nd rfl rfl (sw_true rfl rfl rfl (by decide +kernel)) (pi_list (pe_ix (r := rIxL K) ix_list (pe_ix (r := rIxL K) ix_list (pv 2) (pv 6) (fun _ _ => rfl)) pe_int (fun _ _ => rfl))) (blkOk_by (own := [("b", 11)]) (N := N_law_spoilt) (sc := defScope s_law_spoilt) (by decide +kernel)) (fun _ _ _ _ _ => (pg_name (i := 11) sc_law_spoilt.nd rfl (by first | exact Or.inl rfl | exact Or.inr rfl))) (fun _ _ _ _ _ => pts_one (pt_cmpR op_ne (pv 11) (pv 5) (nomark _))) (fun _ _ _ _ _ => (pv 11)))
    (pss_one (ps_asg (pe_lst (pa_cons (pe_ix (r := rIxL K) ix_list (pe_ix (r := rIxL K) ix_list (pv 2) (pv 6) (fun _ _ => rfl)) pe_int (fun _ _ => rfl)) (pa_cons (pv 10) pa_nil))) (pg_sub (pv 2) (pv 6) set_list)))) pss_nil)
  (pss_cons (ps_if (pt_cmpR op_eq (pv 7) pe_int (nomark _)) 
    (pss_one (ps_ret (pe_lc (own := [("b", 11)]) (g := gName 11) rfl sc_law_spoilt.nd (pi_list (pv 1)) (blkOk_by (own := [("b", 11)]) (N := N_law_spoilt) (sc := defScope s_law_spoilt) (by decide +kernel)) (fun _ _ _ _ _ => (pg_name (i := 11) sc_law_spoilt.nd rfl (by first | exact Or.inl rfl | exact Or.inr rfl))) (fun _ _ _ _ _ => pts_one (pt_cmpR op_ne (pv 11) (pe_ix (r := rIxL K) ix_list (pe_ix (r := rIxL K) ix_list (pv 3) pe_int (fun _ _ => rfl)) pe_int (fun _ _ => rfl)) (nomark _))) (fun _ _ _ _ _ => (pv 11))))) pss_nil)
  (pss_one (ps_ret (pv 1)))))))))))), ?_⟩
    try simp only [nxK, cxK]
    obtain ⟨ta, xs, rfl, hta, hx⟩ := nd_list hs
    have hta0 : SqL K H ta xs := sG.seq hta
    walk_at "rd"
    refine ⟨p, ns, _, rfl, hp, hok, by omega, by omega, fun x ms1 H1 x0 x1 ok1 b1 hp1 => ?_⟩
    have sG1 : Same G H1 := sm_but sG gp b1
    have hr1 : H1 r = some (.lst us) := hbut b1 nrp hr0
    have hs1 : NodesAt K H1 (.ref ta) ps := hs.up sG1
    have hxl : x.toNat < ps.length := by omega
    have hlx := hlab x.toNat hxl
    have hux := hup x.toNat hxl
    walk_at "rd"
    refine r_nd hs1 x0 (by omega) fun u hu => ?_
    walk_at "rd"
    refine r_nd1 hu ?_
    walk_at "rd"
    refine r_nd hs1 x0 (by omega) fun u hu => ?_
    walk_at "rd"
    refine r_nd0 hu ?_
    walk_at "rd"
    have hm0 : 0 ≤ (if upA ps x.toNat > 0 then upA ps x.toNat else 0) := by split <;> omega
    have hm1 : (if upA ps x.toNat > 0 then upA ps x.toNat else 0) < ps.length := by split <;> omega
    generalize (if upA ps x.toNat > 0 then upA ps x.toNat else 0) = y at *
    refine r_nd hs1 hm0 hm1 fun u hu => ?_
    walk_at "rd"
    refine r_nd1 hu ?_
    walk_at "rd"
    have hly := hlab y.toNat (by omega)
    refine ⟨p, ms1, 6, rfl, hp1, ok1, by omega, by omega, fun way ms2 H2 w0 w1 ok2 b2 hp2 => ?_⟩
    have sG2 : Same G H2 := sm_but sG1 gp b2
    have hr2 : H2 r = some (.lst us) := hbut b2 nrp hr1
    have hs2 : NodesAt K H2 (.ref ta) ps := hs.up sG2
    have hd2 : Dp K H2 (.ref r) (.list (rs.map dR)) := .lst (SqL.of hr2) (dps_up sG2 hus)
    have hul : us.length = 10 := by rw [dps_len hus, List.length_map, hrl]
    obtain ⟨⟨ma, la⟩, ea⟩ : ∃ q, ruleA rs (labA ps x.toNat) = some q := Option.ne_none_iff_exists'.mp (hfor _ hxl)
    obtain ⟨⟨mb, lb⟩, eb⟩ : ∃ q, ruleA rs (labA ps y.toNat) = some q := Option.ne_none_iff_exists'.mp (hfor _ (by omega))
    have gda := hrs (labA ps x.toNat)
    rw [ea] at gda
    have gdb := hrs (labA ps y.toNat)
    rw [eb] at gdb
    walk_at "rd"
    refine ifd (fun e0 => ?_) (fun e0 => ?_)
    · walk_at "rd"
      rw [decide_eq_false (show ¬ way = 1 by omega)]
      refine iteF ?_
      refine iteF ?_
      walk_at "rd"
      rw [decide_eq_false (show ¬ way = 2 by omega)]
      refine iteF ?_
      walk_at "rd"
      rw [decide_eq_false (show ¬ way = 3 by omega)]
      refine iteF ?_
      walk_at "rd"
      refine k ra roots (us.set (labA ps x.toNat).toNat .non) (rs.set (labA ps x.toNat).toNat none) ms2 G _ (Same.refl _) (sm_mut sG2 gr) gp gr ((upd_ne nrp.symm).trans hp2) ok2 upd_same (dps_map_set _ hus .non) (by rw [List.length_set]; exact hrl) (fun a => ?_) hroots haroots
      rw [ruleA_set (by omega)]
      split
      · trivial
      · exact hrs a
    · walk_at "rd"
      refine ifd (fun e1 => ?_) (fun e1 => ?_)
      · walk_at "rd"
        refine r_rule hd2 (by omega) (by omega) fun ru hru => ?_
        rw [ea] at hru
        walk_at "rd"
        refine r_rM hru fun um hum => ?_
        walk_at "rd"
        rw [dM_none hum]
        cases ma with
        | none =>
          refine iteF ?_
          walk_at "rd"
          rw [decide_eq_false (show ¬ way = 2 by omega)]
          refine iteF ?_
          walk_at "rd"
          rw [decide_eq_false (show ¬ way = 3 by omega)]
          refine iteF ?_
          walk_at "rd"
          exact k ra roots us rs ms2 G _ (Same.refl _) sG2 gp gr hp2 ok2 hr2 hus hrl hrs hroots haroots
        | some mm =>
          refine iteT ?_
          walk_at "rd"
          refine ⟨.ref ta, ps, x, rfl, hs2, by omega, fun kl H3 s3 hkl0 hkl => ?_⟩
          have hkl3 : SqL K H3 kl ((iN (kidN ps x)).map V.int) := SqL.of hkl
          have sG3 : Same G H3 := sG2.trans s3
          have hd3 := dp_up s3 hd2
          have hr3 : H3 r = some (.lst us) := s3 _ _ hr2
          have hp3 : H3 p = some (iLs ms2) := s3 _ _ hp2
          walk_at "rd"
          refine r_rule hd3 (by omega) (by omega) fun ru hru => ?_
          rw [ea] at hru
          walk_at "rd"
          refine r_rM hru fun um hum => ?_
          obtain ⟨mad, rfl, hmad⟩ := dp_ints' (show Dp K H3 um (dI mm) from hum)
          have hmml := ascB_len (gda.1 mm rfl) (by decide)
          walk_at "rd"
          refine ⟨_, rfl, ⟨_, hmad⟩, lcJ walk_list (fun H' s => s.seq hmad) ⟨by rw [List.length_map]; omega, fun D hD => ⟨fun j acc _ => acc = ((mm.take j).filter fun c => !decide (c = (((iN (kidN ps x)).map V.int).length : Int))).map V.int, rfl, ?_, ?_⟩⟩⟩
          · rintro j z acc H4 H5 hj ⟨rfl, hzj⟩ s4 hD4 hl4 rfl
            obtain ⟨c, hc, rfl⟩ := map_get hzj
            rw [List.length_map] at hj
            walk_at "rd"
            refine ifnd (fun e => ?_) (fun e => ?_)
            · walk_at "rd"
              refine lcIn s4 hD hD4 hl4 (by omega) ?_
              rw [take_filter_in hc (by rw [decide_eq_false e]; rfl), List.map_append]
              rfl
            · refine lcOut s4 hD4 hl4 ?_
              rw [take_filter_out hc (by rw [decide_eq_true e]; rfl)]
          · rintro acc H4 s4 hD4 hl4 rfl
            have nD : D ≠ r := ne_fr hr3 hD
            have nDp : D ≠ p := ne_fr hp3 hD
            have hd4 := dp_up s4 hd3
            have hr4 : H4 r = some (.lst us) := s4 _ _ hr3
            have hp4 : H4 p = some (iLs ms2) := s4 _ _ hp3
            have emm : mm.take (mm.map V.int).length = mm := by rw [List.length_map, List.take_length]
            rw [emm] at hD4
            generalize hleft : (mm.filter fun c => !decide (c = (((iN (kidN ps x)).map V.int).length : Int))) = left at *
            have aleft : AscB 0 41 left := by
              rw [← hleft]
              exact ascB_filter _ (gda.1 mm rfl)
            walk_at "rd"
            refine r_ruleG hr4 hus (by omega) (by omega) fun ru hru => ?_
            rw [ea] at hru
            walk_at "rd"
            refine r_rLG (sG3.trans s4) hru fun al hal => ?_
            walk_at "rd"
            intro q6 hq6
            have n6 : q6 ≠ p := ne_fr hp4 hq6
            have n6r : q6 ≠ r := ne_fr hr4 hq6
            walk_at "rd"
            have sX : Same G (upd H4 q6 (HO.lst [V.ref D, V.ref al])) := (sG3.trans s4).trans (sm_up hq6)
            have sW : Same G (wo (wo (upd H4 q6 (HO.lst [V.ref D, V.ref al])) p) r) := sm_wo2 (sm_wo2 sX gp) gr
            rw [decide_eq_false (show ¬ way = 2 by omega)]
            refine iteF ?_
            walk_at "rd"
            rw [decide_eq_false (show ¬ way = 3 by omega)]
            refine iteF ?_
            walk_at "rd"
            refine k ra roots (us.set (labA ps x.toNat).toNat (.ref q6)) (rs.set (labA ps x.toNat).toNat (some (some left, la))) ms2 _ _ sW (sm_mut (Same.trans sm_wo sm_wo) wo_at) ((wo_ne nrp.symm).trans wo_at) wo_at ((upd_ne nrp.symm).trans ((upd_ne n6.symm).trans hp4)) ok2 upd_same
              (dps_map_set _ (dps_up sW hus) (Dp.lst (SqL.of ((wo_ne n6r).trans ((wo_ne n6).trans upd_same))) (.cons (dp_ints (SqL.of ((wo_ne nD).trans ((wo_ne nDp).trans (hget (sm_up hq6) hD4))))) (.cons (dp_ints (sW.seq hal)) .nil))))
              (by rw [List.length_set]; exact hrl) (fun a => ?_) (sW.seq hroots) haroots
            rw [ruleA_set (by omega)]
            split
            · exact ⟨fun _ e => by cases e; exact aleft, gda.2⟩
            · exact hrs a
      · refine iteF ?_
        walk_at "rd"
        refine ifd (fun e2 => ?_) (fun e2 => ?_)
        · walk_at "rd"
          refine r_rule hd2 (by omega) (by omega) fun ru hru => ?_
          rw [eb] at hru
          walk_at "rd"
          refine r_rL hru fun al hal => ?_
          have hlbl := ascB_len gdb.2 (by decide)
          refine ⟨_, rfl, ⟨_, hal⟩, lcJ walk_list (fun H' s => s.seq hal) ⟨by rw [List.length_map]; omega, fun D hD => ⟨fun j acc _ => acc = ((lb.take j).filter fun c => !decide (c = labA ps x.toNat)).map V.int, rfl, ?_, ?_⟩⟩⟩
          · rintro j z acc H4 H5 hj ⟨rfl, hzj⟩ s4 hD4 hl4 rfl
            obtain ⟨c, hc, rfl⟩ := map_get hzj
            rw [List.length_map] at hj
            walk_at "rd"
            refine ifnd (fun e => ?_) (fun e => ?_)
            · walk_at "rd"
              refine lcIn s4 hD hD4 hl4 (by omega) ?_
              rw [take_filter_in hc (by rw [decide_eq_false e]; rfl), List.map_append]
              rfl
            · refine lcOut s4 hD4 hl4 ?_
              rw [take_filter_out hc (by rw [decide_eq_true e]; rfl)]
          · rintro acc H4 s4 hD4 hl4 rfl
            have nD : D ≠ r := ne_fr hr2 hD
            have nDp : D ≠ p := ne_fr hp2 hD
            have hr4 : H4 r = some (.lst us) := s4 _ _ hr2
            have hp4 : H4 p = some (iLs ms2) := s4 _ _ hp2
            have emm : lb.take (lb.map V.int).length = lb := by rw [List.length_map, List.take_length]
            rw [emm] at hD4
            generalize hleft : (lb.filter fun c => !decide (c = labA ps x.toNat)) = left at *
            have aleft : AscB 1 10 left := by
              rw [← hleft]
              exact ascB_filter _ gdb.2
            walk_at "rd"
            refine r_ruleG hr4 hus (by omega) (by omega) fun ru hru => ?_
            rw [eb] at hru
            walk_at "rd"
            refine r_rMG (sG2.trans s4) hru fun um hum => ?_
            walk_at "rd"
            intro q6 hq6
            have n6 : q6 ≠ p := ne_fr hp4 hq6
            have n6r : q6 ≠ r := ne_fr hr4 hq6
            walk_at "rd"
            have sX : Same G (upd H4 q6 (HO.lst [um, V.ref D])) := (sG2.trans s4).trans (sm_up hq6)
            have sW : Same G (wo (wo (upd H4 q6 (HO.lst [um, V.ref D])) p) r) := sm_wo2 (sm_wo2 sX gp) gr
            rw [decide_eq_false (show ¬ way = 3 by omega)]
            refine iteF ?_
            walk_at "rd"
            refine k ra roots (us.set (labA ps y.toNat).toNat (.ref q6)) (rs.set (labA ps y.toNat).toNat (some (mb, left))) ms2 _ _ sW (sm_mut (Same.trans sm_wo sm_wo) wo_at) ((wo_ne nrp.symm).trans wo_at) wo_at ((upd_ne nrp.symm).trans ((upd_ne n6.symm).trans hp4)) ok2 upd_same
              (dps_map_set _ (dps_up sW hus) (Dp.lst (SqL.of ((wo_ne n6r).trans ((wo_ne n6).trans upd_same))) (.cons (dp_up sW hum) (.cons (dp_ints (SqL.of ((wo_ne nD).trans ((wo_ne nDp).trans (hget (sm_up hq6) hD4))))) .nil))))
              (by rw [List.length_set]; exact hrl) (fun a => ?_) (sW.seq hroots) haroots
            rw [ruleA_set (by omega)]
            split
            · exact ⟨gdb.1, aleft⟩
            · exact hrs a
        · walk_at "rd"
          refine ifd (fun e3 => ?_) (fun e3 => ?_)
          · have hal : SqL K H2 ra (roots.map V.int) := sG2.seq hroots
            have hlbl := ascB_len haroots (by decide)
            walk_at "rd"
            refine ⟨_, rfl, ⟨_, hal⟩, lcJ walk_list (fun H' s => s.seq hal) ⟨by rw [List.length_map]; omega, fun D hD => ⟨fun j acc _ => acc = ((roots.take j).filter fun c => !decide (c = labA ps 0)).map V.int, rfl, ?_, ?_⟩⟩⟩
            · rintro j z acc H4 H5 hj ⟨rfl, hzj⟩ s4 hD4 hl4 rfl
              obtain ⟨c, hc, rfl⟩ := map_get hzj
              rw [List.length_map] at hj
              walk_at "rd"
              refine r_nd (hs2.up s4) (by decide) (by omega) fun u hu => ?_
              walk_at "rd"
              refine r_nd1 hu ?_
              walk_at "rd"
              refine ifnd (fun e => ?_) (fun e => ?_)
              · walk_at "rd"
                refine lcIn s4 hD hD4 hl4 (by omega) ?_
                rw [take_filter_in hc (by rw [decide_eq_false (show ¬ c = labA ps 0 from e)]; rfl), List.map_append]
                rfl
              · refine lcOut s4 hD4 hl4 ?_
                rw [take_filter_out hc (by rw [decide_eq_true (show c = labA ps 0 from e)]; rfl)]
            · rintro acc H4 s4 hD4 hl4 rfl
              have nD : D ≠ r := ne_fr hr2 hD
              have nDp : D ≠ p := ne_fr hp2 hD
              have hr4 : H4 r = some (.lst us) := s4 _ _ hr2
              have hp4 : H4 p = some (iLs ms2) := s4 _ _ hp2
              have emm : roots.take (roots.map V.int).length = roots := by rw [List.length_map, List.take_length]
              rw [emm] at hD4
              have sW : Same G (wo (wo H4 p) r) := sm_wo2 (sm_wo2 (sG2.trans s4) gp) gr
              refine k D _ us rs ms2 _ _ sW (Same.trans sm_wo sm_wo) ((wo_ne nrp.symm).trans wo_at) wo_at hp4 ok2 hr4 (dps_up sW hus) hrl hrs (SqL.of ((wo_ne nD).trans ((wo_ne nDp).trans hD4))) (ascB_filter _ haroots)
          · walk_at "rd"
            exact k ra roots us rs ms2 G _ (Same.refl _) sG2 gp gr hp2 ok2 hr2 hus hrl hrs hroots haroots
end

def SgOk (ns : List Int) : Prop := ∀ n ∈ ns, 0 ≤ n ∧ n ≤ 9
def partsOf (ns : List Int) : List Int := (ns.foldl mstep (0, neg1 ns.length, [])).2.1
def iW (W : List Nat) : List Int := (iN W).reverse
theorem iW_cons (o : Nat) (W : List Nat) : iW (o :: W) = iW W ++ [(o : Int)] := by
  unfold iW iN
  rw [List.map_cons, List.reverse_cons]
theorem iW_len (W : List Nat) : (iW W).length = W.length := by
  unfold iW
  rw [List.length_reverse, iN_len]
section
variable {P : Program} {w : World} {K : PySem.W.Frag} {mg : Str → Option Value} {base : Heap}
def sp_checked_row (K : PySem.W.Frag) : Sp := fun vs H Q _ => ∃ (a : Addr) (ns : List Int), vs = [.ref a] ∧ SqL K H a (ns.map V.int) ∧ SgOk ns ∧ ns.length ≤ 1000 ∧ ∀ (l : Addr) (H' : Hp), Same H H' → H l = none → H' l = some (iLs ns) → Q (.ref l) H'
theorem ok_checked_row (T : Tx K mg) : FnOk P w K mg base CX0 1 T.d_checked_row.a T.d_checked_row.fd P_checked_row (sp_checked_row K) := by
  refine T.d_checked_row.F.ok sc_checked_row (fun vs H Q E h => ?_) (fun cdv A outer s H vs Q E hr h => ?_)
  · obtain ⟨_, _, rfl, _⟩ := h
    rfl
  · obtain ⟨a, ns, rfl, hs, hsg, hl, k⟩ := h
    refine ⟨_, ((pss_cons (ps_for PassesOwn.never rfl (pi_enum rfl T.b_enumerate (pa_cons (pv 0) pa_nil)) (pg_tup (by rfl) (pgs_cons (pg_name (i := 1) sc_checked_row.nd rfl (by first | exact Or.inl rfl | exact Or.inr rfl)) (pgs_cons (pg_name (i := 2) sc_checked_row.nd rfl (by first | exact Or.inl rfl | exact Or.inr rfl)) pgs_nil))) 
    (pss_one (ps_if (PW.pt (pw_or (pt_cmpR op_lt (pv 2) pe_int (nomark _)) (pw_or1 (pt_cmpR op_gt (pv 2) pe_int (nomark _))))) 
      (pss_one ps_never) pss_nil)))
  (pss_one (ps_ret (pe_callTy (r := cLst K) k_lst (by rfl) T.b_list (by decide +kernel) (pa_cons (pv 0) pa_nil)))))), ?_⟩
    try simp only [nxK, cxK]
    walk_at "rd"
    refine ⟨_, _, rfl, hs, forJ (walk_enum (xs := ns.map V.int)) ⟨fun i σ H' => ∃ (v1 v2 : Option V), σ = [some (.ref a), v1, v2] ∧ Same H H', ?_, fun i σ H' _ h => ?_, ?_, ?_⟩⟩
    · exact ⟨none, none, rfl, Same.refl _⟩
    · obtain ⟨_, _, _, s⟩ := h
      exact s.seq hs
    · rintro i x σ H3 H4 hi ⟨v1, v2, rfl, s3⟩ ⟨tp, x1, y1, rfl, htp, rfl, e1, e2⟩
      obtain rfl := Option.some.inj e1
      obtain ⟨n, hn, rfl⟩ := map_get e2
      have hsn := hsg n (List.mem_of_getElem? hn)
      walk_at "rd"
      refine ifd (fun e => (show False from by have e' : n < 0 := e; omega).elim) (fun _ => ?_)
      walk_at "rd"
      refine ifd (fun e => (show False from by have e' : 9 < n := e; omega).elim) (fun _ => ?_)
      walk_at "rd"
      exact ⟨_, _, rfl, by walk_at "sm"⟩
    · rintro σ H3 ⟨v1, v2, rfl, s3⟩
      have hs3 := s3.seq hs
      walk_at "rd"
      intro l hl
      exact k l _ (by walk_at "sm") (by walk_at "fr") upd_same
def sp_matched (K : PySem.W.Frag) : Sp := fun vs H Q _ => ∃ (a : Addr) (ns : List Int), vs = [.ref a] ∧ SqL K H a (ns.map V.int) ∧ SgOk ns ∧ ns.length ≤ 1000 ∧ ∀ (l : Addr) (H' : Hp), Same H H' → H l = none → H' l = some (iLs (partsOf ns)) → Q (.ref l) H'
theorem ok_matched (T : Tx K mg) : FnOk P w K mg base CX0 2 T.d_matched.a T.d_matched.fd P_matched (sp_matched K) := by
  refine T.d_matched.F.ok sc_matched (fun vs H Q E h => ?_) (fun cdv A outer s H vs Q E hr h => ?_)
  · obtain ⟨_, _, rfl, _⟩ := h
    rfl
  · obtain ⟨a, ns, rfl, hs, hsg, hl, k⟩ := h
    refine ⟨_, ((pss_cons (ps_set (i := 1) sc_matched.nd rfl (by first | exact Or.inl rfl | exact Or.inr rfl) (pe_call (ok_checked_row T) (hr.mono (by decide)) rfl T.d_checked_row.g T.d_checked_row.F.kp T.d_checked_row.b .nil pass0 (pa_cons (pv 0) pa_nil)))
  (pss_cons (ps_set (i := 2) sc_matched.nd rfl (by first | exact Or.inl rfl | exact Or.inr rfl) (pe_op op_rep (pe_lst (pa_cons (pe_un un_neg pe_int) pa_nil)) (pe_callB (r := cLen K) k_len (by rfl) T.b_len (by decide +kernel) (pa_cons (pv 1) pa_nil))))
  (pss_cons (ps_set (i := 3) sc_matched.nd rfl (by first | exact Or.inl rfl | exact Or.inr rfl) (pe_lst pa_nil))
  (pss_cons (ps_for PassesOwn.never rfl (pi_enum rfl T.b_enumerate (pa_cons (pv 1) pa_nil)) (pg_tup (by rfl) (pgs_cons (pg_name (i := 4) sc_matched.nd rfl (by first | exact Or.inl rfl | exact Or.inr rfl)) (pgs_cons (pg_name (i := 5) sc_matched.nd rfl (by first | exact Or.inl rfl | exact Or.inr rfl)) pgs_nil))) 
    (pss_one (ps_if (pt_cmpR op_gt (pv 5) pe_int (nomark _)) 
      (pss_one (ps_expr (pe_bm PySem.F.plainAttrs_list PySem.F.slot_list_append PySem.F.type_list_append mt_append (pv 3) (pa_cons (pv 4) pa_nil)))) 
      (pss_one (ps_if (pt_cmpR op_gt (pe_callB (r := cLen K) k_len (by rfl) T.b_len (by decide +kernel) (pa_cons (pv 3) pa_nil)) pe_int (nomark _)) 
        (pss_cons (ps_set (i := 6) sc_matched.nd rfl (by first | exact Or.inl rfl | exact Or.inr rfl) (pe_bm0 PySem.F.plainAttrs_list PySem.F.slot_list_pop PySem.F.type_list_pop mt_pop (pv 3)))
        (pss_cons (ps_asg (pv 4) (pg_sub (pv 2) (pv 6) set_list))
        (pss_one (ps_asg (pv 6) (pg_sub (pv 2) (pv 4) set_list))))) pss_nil)))))
  (pss_one (ps_ret (pv 2)))))))), ?_⟩
    try simp only [nxK, cxK]
    walk_at "rd"
    refine ⟨a, ns, rfl, hs, hsg, hl, fun sa H1 s1 hsa hsa1 => ?_⟩
    have hss1 : SqL K H1 sa (ns.map V.int) := SqL.of hsa1
    walk_at "rd"
    intro q1 hq1
    walk_at "rd"
    intro pa hpa
    walk_at "rd"
    intro wa hwa
    have npw : wa ≠ pa := ne_fr upd_same hwa
    have fpa : H1 pa = none := by walk_at "fr"
    have fwa : H1 wa = none := by walk_at "fr"
    walk_at "rd"
    refine ⟨_, _, rfl, by walk_at "sq", forJ (walk_enum (xs := ns.map V.int)) ⟨fun i σ H' => ∃ (Pt : List Int) (W : List Nat) (v4 v5 v6 : Option V), σ = [some (.ref a), some (.ref sa), some (.ref pa), some (.ref wa), v4, v5, v6] ∧ Same H1 H' ∧
      (ns.take i).foldl mstep (0, neg1 ns.length, []) = (i, Pt, W) ∧ H' pa = some (iLs Pt) ∧ H' wa = some (iLs (iW W)) ∧ Pt.length = ns.length ∧ (∀ o ∈ W, o < i) ∧ W.length ≤ i, ?_, fun i σ H' _ h => ?_, ?_, ?_⟩⟩
    · refine ⟨neg1 ns.length, [], none, none, none, rfl, by walk_at "sm", rfl, ?_, upd_same, by unfold neg1; rw [List.length_replicate], by simp, Nat.le_refl _⟩
      rw [upd_ne npw.symm, upd_same, iLs, neg1, List.map_replicate, List.length_map]
      simp
    · obtain ⟨_, _, _, _, _, _, s, _⟩ := h
      exact s.seq hss1
    · rintro i x σ H3 H4 hi ⟨Pt, W, v4, v5, v6, rfl, s3, hst, hp3, hw3, lP, hW, lW⟩ ⟨tp, x1, y1, rfl, htp, rfl, e1, e2⟩
      obtain rfl := Option.some.inj e1
      obtain ⟨n, hn, rfl⟩ := map_get e2
      have hin : i < ns.length := (List.getElem?_eq_some_iff.mp hn).1
      have hnx := foldl_take_succ (f := mstep) hn (0, neg1 ns.length, [])
      rw [hst] at hnx
      have ntp : tp ≠ pa := ne_fr hp3 htp
      have ntw : tp ≠ wa := ne_fr hw3 htp
      have hwl := iW_len W
      unfold iLs at hp3 hw3
      walk_at "rd"
      refine ifd (fun e => ?_) (fun e => ?_)
      · walk_at "rd"
        refine ⟨Pt, i :: W, _, _, _, rfl, sm_mut (s3.trans (sm_up htp)) fwa, ?_, ?_, ?_, lP, ?_, by simp; omega⟩
        · rw [hnx]
          show (if 0 < n then _ else _) = _
          rw [if_pos e]
        · exact (upd_ne npw.symm).trans ((upd_ne ntp.symm).trans hp3)
        · rw [upd_same, iLs, iW_cons, List.map_append]
          rfl
        · intro o ho
          rcases List.mem_cons.mp ho with e | e
          · omega
          · have := hW o e
            omega
      · walk_at "rd"
        cases W with
        | nil =>
          refine ifd (fun e2 => absurd e2 (by rw [List.length_map, hwl]; simp)) (fun e2 => ?_)
          walk_at "rd"
          refine ⟨Pt, [], _, _, _, rfl, by walk_at "sm", ?_, (upd_ne ntp.symm).trans hp3, (upd_ne ntw.symm).trans hw3, lP, by simp, by simp⟩
          rw [hnx]
          show (if 0 < n then _ else _) = _
          rw [if_neg e]
        | cons o W =>
          have ho : o < i := hW o (List.mem_cons_self ..)
          refine ifd (fun e2 => ?_) (fun e2 => absurd (show (0 : Int) < _ from by rw [List.length_map, hwl, List.length_cons]; omega) e2)
          rw [iW_cons, List.map_append] at hw3
          walk_at "rd"
          refine r_pop (xs := (iW W).map V.int) (y := .int o) ((upd_ne ntw.symm).trans hw3) ?_
          walk_at "rd"
          rw [Int.toNat_natCast, Int.toNat_natCast]
          refine ⟨(Pt.set o (i : Int)).set i (o : Int), W, _, _, _, rfl, ?_, ?_, ?_, ?_, by rw [List.length_set, List.length_set]; exact lP, fun z hz => ?_, by simp at lW; omega⟩
          · exact sm_mut (sm_mut (sm_mut (s3.trans (sm_up htp)) fwa) fpa) fpa
          · rw [hnx]
            show (if 0 < n then _ else _) = _
            rw [if_neg e]
          · rw [upd_same, iLs, List.map_set, List.map_set]
          · rw [upd_ne npw, upd_ne npw, upd_same]
            rfl
          · have := hW z (List.mem_cons_of_mem _ hz)
            omega
    · rintro σ H3 ⟨Pt, W, v4, v5, v6, rfl, s3, hst, hp3, hw3, lP, hW, lW⟩
      rw [List.length_map, List.take_length] at hst
      walk_at "rd"
      refine k pa H3 (s1.trans s3) (s1.free fpa) ?_
      rw [hp3, partsOf, hst]
def BalOk (ns : List Int) : Prop := SgOk ns ∧ ∀ x ∈ partsOf ns, 0 ≤ x
theorem parts_len (ns : List Int) : (partsOf ns).length = ns.length := by
  have key : ∀ (l : List Int) (s : Nat × List Int × List Nat), (l.foldl mstep s).2.1.length = s.2.1.length := by
    intro l
    induction l with
    | nil => intro s; rfl
    | cons x r ih =>
      rintro ⟨i, P, W⟩
      rw [List.foldl_cons, ih]
      show (if 0 < x then (i + 1, P, i :: W) else match W with
        | [] => (i + 1, P, [])
        | o :: W' => (i + 1, (P.set o (i : Int)).set i (o : Int), W')).2.1.length = P.length
      by_cases h : 0 < x
      · rw [if_pos h]
      · rw [if_neg h]
        cases W with
        | nil => rfl
        | cons o W => simp
  unfold partsOf
  rw [key]
  unfold neg1
  exact List.length_replicate
def sp_checked_balanced (K : PySem.W.Frag) : Sp := fun vs H Q _ => ∃ (a : Addr) (ns : List Int), vs = [.ref a] ∧ SqL K H a (ns.map V.int) ∧ BalOk ns ∧ ns.length ≤ 1000 ∧ ∀ (l : Addr) (H' : Hp), Same H H' → H l = none → H' l = some (iLs ns) → Q (.ref l) H'
theorem ok_checked_balanced (T : Tx K mg) : FnOk P w K mg base CX0 3 T.d_checked_balanced.a T.d_checked_balanced.fd P_checked_balanced (sp_checked_balanced K) := by
  refine T.d_checked_balanced.F.ok sc_checked_balanced (fun vs H Q E h => ?_) (fun cdv A outer s H vs Q E hr h => ?_)
  · obtain ⟨_, _, rfl, _⟩ := h
    rfl
  · obtain ⟨a, ns, rfl, hs, hsg, hl, k⟩ := h
    refine ⟨_, ((pss_cons (ps_set (i := 1) sc_checked_balanced.nd rfl (by first | exact Or.inl rfl | exact Or.inr rfl) (pe_call (ok_matched T) (hr.mono (by decide)) rfl T.d_matched.g T.d_matched.F.kp T.d_matched.b .nil pass0 (pa_cons (pv 0) pa_nil)))
  (pss_cons (ps_for PassesOwn.never rfl (pi_enum rfl T.b_enumerate (pa_cons (pv 0) pa_nil)) (pg_tup (by rfl) (pgs_cons (pg_name (i := 2) sc_checked_balanced.nd rfl (by first | exact Or.inl rfl | exact Or.inr rfl)) (pgs_cons (pg_name (i := 3) sc_checked_balanced.nd rfl (by first | exact Or.inl rfl | exact Or.inr rfl)) pgs_nil))) 
    (pss_one (ps_if (PW.pt (pw_and (pt_cmpR op_eq (pv 3) pe_int (nomark _)) (pw_and1 (pt_cmpR op_eq (pe_ix (r := rIxL K) ix_list (pv 1) (pv 2) (fun _ _ => rfl)) (pe_un un_neg pe_int) (nomark _))))) 
      (pss_one ps_never) pss_nil)))
  (pss_cons (ps_if (pt_cmpR (r := rIn K false) op_in_seq (pe_un un_neg pe_int) (pv 1) rfl) 
    (pss_one ps_never) pss_nil)
  (pss_one (ps_ret (pe_callTy (r := cLst K) k_lst (by rfl) T.b_list (by decide +kernel) (pa_cons (pv 0) pa_nil)))))))), ?_⟩
    try simp only [nxK, cxK]
    walk_at "rd"
    refine ⟨a, ns, rfl, hs, hsg.1, hl, fun pa H1 s1 hpa hpa1 => ?_⟩
    have hpl := parts_len ns
    have hs1 := s1.seq hs
    have hpq1 : SqL K H1 pa ((partsOf ns).map V.int) := SqL.of hpa1
    walk_at "rd"
    refine ⟨_, _, rfl, hs1, forJ (walk_enum (xs := ns.map V.int)) ⟨fun i σ H' => ∃ (v2 v3 : Option V), σ = [some (.ref a), some (.ref pa), v2, v3] ∧ Same H1 H', ?_, fun i σ H' _ h => ?_, ?_, ?_⟩⟩
    · exact ⟨none, none, rfl, Same.refl _⟩
    · obtain ⟨_, _, _, s⟩ := h
      exact s.seq hs1
    · rintro i x σ H3 H4 hi ⟨v2, v3, rfl, s3⟩ ⟨tp, x1, y1, rfl, htp, rfl, e1, e2⟩
      obtain rfl := Option.some.inj e1
      obtain ⟨n, hn, rfl⟩ := map_get e2
      have hin : i < ns.length := (List.getElem?_eq_some_iff.mp hn).1
      have s4 : Same H1 (upd H3 tp (HO.tup [V.int (i : Nat), V.int n])) := s3.trans (sm_up htp)
      walk_at "rd"
      refine ifd (fun e => ?_) (fun e => ?_)
      · walk_at "rd"
        refine r_ixI (s4.seq hpq1) (by omega) (by rw [hpl]; omega) fun m hm => ?_
        have hm0 := hsg.2 m (List.mem_of_getElem? hm)
        walk_at "rd"
        refine ifd (fun e => absurd e (by omega)) (fun _ => ?_)
        walk_at "rd"
        exact ⟨_, _, rfl, s4⟩
      · refine iteF ?_
        walk_at "rd"
        exact ⟨_, _, rfl, s4⟩
    · rintro σ H3 ⟨v2, v3, rfl, s3⟩
      have hpq3 := s3.seq hpq1
      have hs3 := s3.seq hs1
      walk_at "rd"
      refine ifd (fun e => absurd (hsg.2 _ e) (by decide)) (fun _ => ?_)
      walk_at "rd"
      intro l hl2
      exact k l _ (s1.trans (by walk_at "sm")) (s1.free (by walk_at "fr")) upd_same
def sp_opening_number (K : PySem.W.Frag) : Sp := fun vs H Q _ => ∃ (a b : Addr) (R N : List Int) (p : Int), vs = [.ref a, .ref b, .int p] ∧ SqL K H a (R.map V.int) ∧ SqL K H b (N.map V.int) ∧ N.length = R.length ∧ 0 ≤ p ∧ Q (.int (onN R N p.toNat)) H
theorem ok_opening_number (T : Tx K mg) : FnOk P w K mg base CX0 1 T.d_opening_number.a T.d_opening_number.fd P_opening_number (sp_opening_number K) := by
  refine T.d_opening_number.F.ok sc_opening_number (fun vs H Q E h => ?_) (fun cdv A outer s H vs Q E hr h => ?_)
  · obtain ⟨_, _, _, _, _, rfl, _⟩ := h
    rfl
  · obtain ⟨a, b, R, N, p, rfl, ha, hb, hl, hp0, k⟩ := h
    refine ⟨_, ((pss_cons (ps_if (PW.pt (pw_and (pt_cmpR op_lt (pv 2) (pe_callB (r := cLen K) k_len (by rfl) T.b_len (by decide +kernel) (pa_cons (pv 0) pa_nil)) (nomark _)) (pw_and1 (pt_cmpR op_gt (pe_ix (r := rIxL K) ix_list (pv 0) (pv 2) (fun _ _ => rfl)) pe_int (nomark _))))) 
    (pss_one (ps_ret (pe_ix (r := rIxL K) ix_list (pv 1) (pv 2) (fun _ _ => rfl)))) pss_nil)
  (pss_one (ps_ret (pe_un un_neg pe_int))))), ?_⟩
    try simp only [nxK, cxK]
    have gD : ∀ (l : List Int) (n : Int), l[p.toNat]? = some n → l.getD p.toNat 0 = n := fun l n h => by rw [List.getD_eq_getElem?_getD, h]; rfl
    walk_at "rd"
    rw [List.length_map]
    refine ifd (fun e => ?_) (fun e => ?_)
    · walk_at "rd"
      refine r_ixI ha hp0 e fun n hn => ?_
      walk_at "rd"
      refine ifd (fun e2 => ?_) (fun e2 => ?_)
      · walk_at "rd"
        refine r_ixI hb hp0 (by omega) fun m hm => ?_
        rw [onN, gD R n hn, if_pos e2, gD N m hm] at k
        exact k
      · walk_at "rd"
        rw [onN, gD R n hn, if_neg e2] at k
        exact k
    · refine iteF ?_
      walk_at "rd"
      rw [onN, List.getD_eq_getElem?_getD, List.getElem?_eq_none (by omega), if_neg (by decide)] at k
      exact k
end

def dT3 (t : Int × Int × Int) : PyData := dTI [t.1, t.2.1, t.2.2]
theorem parts_row (f : Fo) (h : okF f) : partsOf (rowF f) = partF 0 f := by
  unfold partsOf
  rw [mrun_all f h]
theorem bal_row {f : Fo} (h : okF f) : BalOk (rowF f) := by
  refine ⟨rowF_sign h, fun x hx => ?_⟩
  rw [parts_row f h] at hx
  have := partF_in f 0 x hx
  omega
theorem filterMap_range_snoc {α : Type} (g : Nat → Option α) (i : Nat) : (List.range (i + 1)).filterMap g = (List.range i).filterMap g ++ (g i).toList := by
  rw [List.range_succ, List.filterMap_append]
  congr 1
section
variable {P : Program} {w : World} {K : PySem.W.Frag} {mg : Str → Option Value} {base : Heap}
def sp_binary_of_row (K : PySem.W.Frag) : Sp := fun vs H Q _ => ∃ (a : Addr) (f : Fo), vs = [.ref a] ∧ SqL K H a ((rowF f).map V.int) ∧ okF f ∧ szF f ≤ 400 ∧ ∀ (l : Addr) (H' : Hp), Same H H' → H l = none → Dp K (nw H H') (.ref l) (.list ((triF 0 f).map dT3)) → Q (.ref l) H'
theorem ok_binary_of_row (T : Tx K mg) : FnOk P w K mg base CX0 4 T.d_binary_of_row.a T.d_binary_of_row.fd P_binary_of_row (sp_binary_of_row K) := by
  refine T.d_binary_of_row.F.ok sc_binary_of_row (fun vs H Q E h => ?_) (fun cdv A outer s H vs Q E hr h => ?_)
  · obtain ⟨_, _, rfl, _⟩ := h
    rfl
  · obtain ⟨a, f, rfl, hs, hf, hl, k⟩ := h
    refine ⟨_, ((pss_cons (ps_set (i := 1) sc_binary_of_row.nd rfl (by first | exact Or.inl rfl | exact Or.inr rfl) (pe_call (ok_checked_balanced T) (hr.mono (by decide)) rfl T.d_checked_balanced.g T.d_checked_balanced.F.kp T.d_checked_balanced.b .nil pass0 (pa_cons (pv 0) pa_nil)))
  (pss_cons (ps_set (i := 2) sc_binary_of_row.nd rfl (by first | exact Or.inl rfl | exact Or.inr rfl) (pe_call (ok_matched T) (hr.mono (by decide)) rfl T.d_matched.g T.d_matched.F.kp T.d_matched.b .nil pass0 (pa_cons (pv 1) pa_nil)))
  (pss_cons (ps_set (i := 3) sc_binary_of_row.nd rfl (by first | exact Or.inl rfl | exact Or.inr rfl) (pe_lst pa_nil))
  (pss_cons (ps_set (i := 4) sc_binary_of_row.nd rfl (by first | exact Or.inl rfl | exact Or.inr rfl) pe_int)
  (pss_cons (ps_for PassesOwn.never rfl (pi_list (pv 1)) (pg_name (i := 5) sc_binary_of_row.nd rfl (by first | exact Or.inl rfl | exact Or.inr rfl)) 
    (pss_cons (ps_expr (pe_bm PySem.F.plainAttrs_list PySem.F.slot_list_append PySem.F.type_list_append mt_append (pv 3) (pa_cons (pv 4) pa_nil)))
    (pss_one (ps_if (pt_cmpR op_gt (pv 5) pe_int (nomark _)) 
      (pss_one (ps_aug (i := 4) sc_binary_of_row.nd rfl (by first | exact Or.inl rfl | exact Or.inr rfl) pe_int ip_add)) pss_nil))))
  (pss_cons (ps_set (i := 6) sc_binary_of_row.nd rfl (by first | exact Or.inl rfl | exact Or.inr rfl) (pe_lst pa_nil))
  (pss_cons (ps_for PassesOwn.never rfl (pi_enum rfl T.b_enumerate (pa_cons (pv 1) pa_nil)) (pg_tup (by rfl) (pgs_cons (pg_name (i := 7) sc_binary_of_row.nd rfl (by first | exact Or.inl rfl | exact Or.inr rfl)) (pgs_cons (pg_name (i := 5) sc_binary_of_row.nd rfl (by first | exact Or.inl rfl | exact Or.inr rfl)) pgs_nil))) 
    (pss_one (ps_if (pt_cmpR op_gt (pv 5) pe_int (nomark _)) 
      (pss_cons (ps_set (i := 8) sc_binary_of_row.nd rfl (by first | exact Or.inl rfl | exact Or.inr rfl) (pe_call (ok_opening_number T) (hr.mono (by decide)) rfl T.d_opening_number.g T.d_opening_number.F.kp T.d_opening_number.b .nil pass0 (pa_cons (pv 1) (pa_cons (pv 3) (pa_cons (pe_op op_add (pv 7) pe_int) pa_nil)))))
      (pss_cons (ps_set (i := 9) sc_binary_of_row.nd rfl (by first | exact Or.inl rfl | exact Or.inr rfl) (pe_call (ok_opening_number T) (hr.mono (by decide)) rfl T.d_opening_number.g T.d_opening_number.F.kp T.d_opening_number.b .nil pass0 (pa_cons (pv 1) (pa_cons (pv 3) (pa_cons (pe_op op_add (pe_ix (r := rIxL K) ix_list (pv 2) (pv 7) (fun _ _ => rfl)) pe_int) pa_nil)))))
      (pss_one (ps_expr (pe_bm PySem.F.plainAttrs_list PySem.F.slot_list_append PySem.F.type_list_append mt_append (pv 6) (pa_cons (pe_tup (pa_cons (pv 5) (pa_cons (pv 8) (pa_cons (pv 9) pa_nil)))) pa_nil)))))) pss_nil)))
  (pss_one (ps_ret (pv 6))))))))))), ?_⟩
    try simp only [nxK, cxK]
    have hlen := rowF_len f
    walk_at "rd"
    refine ⟨a, rowF f, rfl, hs, bal_row hf, by omega, fun sa H1 s1 hsa hsa1 => ?_⟩
    have hss1 : SqL K H1 sa ((rowF f).map V.int) := SqL.of hsa1
    walk_at "rd"
    refine ⟨sa, rowF f, rfl, hss1, rowF_sign hf, by omega, fun pa H2 s2 hpa hpa2 => ?_⟩
    rw [parts_row f hf] at hpa2
    have hpp2 : SqL K H2 pa ((partF 0 f).map V.int) := SqL.of hpa2
    have hss2 := s2.seq hss1
    walk_at "rd"
    intro na hna
    have hss3 : SqL K (upd H2 na (HO.lst [])) sa ((rowF f).map V.int) := by walk_at "sq"
    have s03 : Same H (upd H2 na (HO.lst [])) := by walk_at "sm"
    have fna : H na = none := by walk_at "fr"
    walk_at "rd"
    refine ⟨sa, rfl, ⟨_, hss3⟩, forJ (walk_list (xs := (rowF f).map V.int)) ⟨fun i σ H' => ∃ (N : List Int) (c : Int) (v5 v6 v7 v8 v9 : Option V), σ = [some (.ref a), some (.ref sa), some (.ref pa), some (.ref na), some (.int c), v5, v6, v7, v8, v9] ∧ Same H2 H' ∧
      ((rowF f).take i).foldl cstep ([], 0) = (N, c) ∧ H' na = some (iLs N) ∧ N.length ≤ i, ?_, fun i σ H' _ h => ?_, ?_, ?_⟩⟩
    · exact ⟨[], 0, none, none, none, none, none, rfl, sm_up hna, rfl, upd_same, Nat.le_refl _⟩
    · obtain ⟨_, _, _, _, _, _, _, _, s, _⟩ := h
      exact s.seq hss2
    · rintro i x σ H3 H4 hi ⟨N, c, v5, v6, v7, v8, v9, rfl, s3, hst, hn3, lN⟩ ⟨rfl, hxi⟩
      obtain ⟨n, hn, rfl⟩ := map_get hxi
      have hin : i < (rowF f).length := (List.getElem?_eq_some_iff.mp hn).1
      have hnx := foldl_take_succ (f := cstep) hn ([], 0)
      rw [hst] at hnx
      unfold iLs at hn3
      walk_at "rd"
      refine ifd (fun e => ?_) (fun e => ?_)
      · walk_at "rd"
        refine ⟨N ++ [c], c + 1, _, _, _, _, _, rfl, sm_mut s3 hna, ?_, ?_, by simp; omega⟩
        · rw [hnx]
          show (N ++ [c], if 0 < n then c + 1 else c) = _
          rw [if_pos e]
        · rw [upd_same, iLs, List.map_append]
          rfl
      · walk_at "rd"
        refine ⟨N ++ [c], c, _, _, _, _, _, rfl, sm_mut s3 hna, ?_, ?_, by simp; omega⟩
        · rw [hnx]
          show (N ++ [c], if 0 < n then c + 1 else c) = _
          rw [if_neg e]
        · rw [upd_same, iLs, List.map_append]
          rfl
    · rintro σ H3 ⟨N, c, v5, v6, v7, v8, v9, rfl, s3, hst, hn3, lN⟩
      rw [List.length_map, List.take_length] at hst
      have hcr := crun_row f hf [] 0
      rw [show ((0 : Nat) : Int) = 0 from rfl, hst] at hcr
      obtain ⟨e1, e2⟩ := Prod.mk.inj hcr
      rw [List.nil_append] at e1
      subst e1
      have hnn3 : SqL K H3 na ((numF 0 f).map V.int) := SqL.of hn3
      have hss4 := s3.seq hss2
      have hpp4 := s3.seq hpp2
      have s4 : Same H H3 := by walk_at "sm"
      walk_at "rd"
      intro ta hta
      have fta : H ta = none := s4.free hta
      walk_at "rd"
      refine ⟨_, _, rfl, by walk_at "sq", forJ (walk_enum (xs := (rowF f).map V.int)) ⟨fun i σ H' => ∃ (us : List V) (v5 v7 v8 v9 : Option V), σ = [some (.ref a), some (.ref sa), some (.ref pa), some (.ref na), some (.int c), v5, some (.ref ta), v7, v8, v9] ∧ Same H3 H' ∧
        H' ta = some (.lst us) ∧ DpAll K (wo (nw H H') ta) us (((List.range i).filterMap (triG (rowF f) (numF 0 f) (partF 0 f))).map dT3) ∧ us.length ≤ i, ?_, fun i σ H' _ h => ?_, ?_, ?_⟩⟩
      · exact ⟨[], _, _, _, _, rfl, sm_up hta, upd_same, .nil, Nat.le_refl _⟩
      · obtain ⟨_, _, _, _, _, _, s, _⟩ := h
        exact s.seq hss4
      · rintro i x σ H5 H6 hi ⟨us, v5, v7, v8, v9, rfl, s5, ht5, hus, lus⟩ ⟨tp, x1, y1, rfl, htp, rfl, e1, e2⟩
        obtain rfl := Option.some.inj e1
        obtain ⟨n, hn, rfl⟩ := map_get e2
        have hin : i < (rowF f).length := (List.getElem?_eq_some_iff.mp hn).1
        have s6 : Same H3 (upd H5 tp (HO.tup [V.int (i : Nat), V.int n])) := s5.trans (sm_up htp)
        have ntp : tp ≠ ta := ne_fr ht5 htp
        have hss6 := s6.seq hss4
        have hnn6 := s6.seq hnn3
        have hpp6 := s6.seq hpp4
        have ht6 : (upd H5 tp (HO.tup [V.int (i : Nat), V.int n])) ta = some (.lst us) := (upd_ne ntp.symm).trans ht5
        have hus6 := dps_up (ng_up (g := ta) (H := H) (sm_up (o := HO.tup [V.int (i : Nat), V.int n]) htp)) hus
        have htp6 : SqT K (upd H5 tp (HO.tup [V.int (i : Nat), V.int n])) tp [V.int (i : Nat), V.int n] := SqT.of upd_same
        generalize upd H5 tp (HO.tup [V.int (i : Nat), V.int n]) = H6 at *
        have gD : (rowF f).getD i 0 = n := by rw [List.getD_eq_getElem?_getD, hn]; rfl
        have hnl : (numF 0 f).length = (rowF f).length := by rw [numF_len, hlen]
        have hpl : (partF 0 f).length = (rowF f).length := by rw [partF_len, hlen]
        have gP : ∀ m, (partF 0 f)[i]? = some m → (partF 0 f).getD i 0 = m := fun m h => by rw [List.getD_eq_getElem?_getD, h]; rfl
        have ei : ((i : Int) + 1).toNat = i + 1 := by omega
        walk_at "rd"
        refine ifd (fun e => ?_) (fun e => ?_)
        · walk_at "rd"
          refine ⟨sa, na, rowF f, numF 0 f, _, rfl, hss6, hnn6, hnl, by omega, ?_⟩
          walk_at "rd"
          refine r_ixI hpp6 (by omega) (by rw [hpl]; omega) fun m hm => ?_
          rw [Int.toNat_natCast] at hm
          have hm0 := partF_in f 0 m (List.mem_of_getElem? hm)
          walk_at "rd"
          refine ⟨sa, na, rowF f, numF 0 f, _, rfl, hss6, hnn6, hnl, by omega, ?_⟩
          have em : (m + 1).toNat = m.toNat + 1 := by omega
          rw [ei, em]
          walk_at "rd"
          intro q hq
          have nq : q ≠ ta := ne_fr ht6 hq
          have fq : H q = none := s4.free (s6.free hq)
          walk_at "rd"
          refine ⟨us ++ [.ref q], _, _, _, _, rfl, ?_, upd_same, ?_, by simp; omega⟩
          · exact sm_mut (s6.trans (sm_up hq)) hta
          · rw [ng_set, filterMap_range_snoc, show triG (rowF f) (numF 0 f) (partF 0 f) i = some (n, onN (rowF f) (numF 0 f) (i + 1), onN (rowF f) (numF 0 f) (m.toNat + 1)) from by
              unfold triG
              rw [gD, if_pos e, gP m hm], List.map_append]
            refine dps_app (dps_up (ng_up (sm_up hq)) hus6) (.cons (dp_tints (ns := [n, _, _]) (SqT.of ?_)) .nil)
            rw [ng_at fq nq, upd_same]
            rfl
        · walk_at "rd"
          refine ⟨us, _, _, _, _, rfl, s6, ht6, ?_, by omega⟩
          rw [filterMap_range_snoc, show triG (rowF f) (numF 0 f) (partF 0 f) i = none from by
            unfold triG
            rw [gD, if_neg e]]
          rw [show (none : Option (Int × Int × Int)).toList = [] from rfl, List.append_nil]
          exact hus6
      · rintro σ H5 ⟨us, v5, v7, v8, v9, rfl, s5, ht5, hus, lus⟩
        rw [List.length_map, tri_all f hf] at hus
        walk_at "rd"
        exact k ta H5 (s4.trans s5) fta (Dp.lst (SqL.of ((nw_at fta).trans ht5)) (dps_up sm_wo hus))
end

def dP (p : Int × Int) : PyData := dTI [p.1, p.2]
def upsT (ps : List (Int × Int)) : List Int := ps.map (·.1)
def labsT (ps : List (Int × Int)) : List Int := ps.map (·.2)
def belowT (ps : List (Int × Int)) : List PyData := (List.range ps.length).map fun v : Nat => dTI (iN (kidN ps v))
def kidU (ps : List (Int × Int)) (i : Nat) (j : Int) : List Int := iN ((List.range i).filter fun k => decide (upA ps k = j))
theorem kidU_step (ps : List (Int × Int)) (i : Nat) (j : Int) : kidU ps (i + 1) j = kidU ps i j ++ if upA ps i = j then [(i : Int)] else [] := by
  unfold kidU
  rw [range_filter_snoc]
  by_cases h : upA ps i = j
  · rw [if_pos (decide_eq_true h), if_pos h, iN_snoc]
  · rw [if_neg (by rw [decide_eq_false h]; decide), if_neg h, List.append_nil, List.append_nil]
theorem kidU_len (ps : List (Int × Int)) (i : Nat) (j : Int) : (kidU ps i j).length ≤ i := by
  unfold kidU
  rw [iN_len]
  have := List.length_filter_le (fun k => decide (upA ps k = j)) (List.range i)
  rw [List.length_range] at this
  exact this
theorem kidU_self {ps : List (Int × Int)} (h : ∀ (j : Nat) (q : Int × Int), ps[j]? = some q → -1 ≤ q.1 ∧ q.1 < ((0 + j : Nat) : Int)) {i : Nat} (hi : i < ps.length) : kidU ps (i + 1) (i : Nat) = [] := by
  unfold kidU
  rw [List.filter_eq_nil_iff.mpr]
  · rfl
  · intro k hk e
    have hk2 := List.mem_range.mp hk
    have hkl : k < ps.length := by omega
    have := h k ps[k] (List.getElem?_eq_getElem hkl)
    have e2 := of_decide_eq_true e
    rw [upA_at (List.getElem?_eq_getElem hkl)] at e2
    omega
theorem kidN_kidU (ps : List (Int × Int)) (v : Int) : iN (kidN ps v) = kidU ps ps.length v := rfl
theorem nodup_inj {as : List Addr} (h : as.Nodup) {i j : Nat} {b : Addr} (hi : as[i]? = some b) (hj : as[j]? = some b) : i = j := by
  obtain ⟨hi1, hi2⟩ := List.getElem?_eq_some_iff.mp hi
  obtain ⟨hj1, hj2⟩ := List.getElem?_eq_some_iff.mp hj
  have hp := List.pairwise_iff_getElem.mp h
  rcases Nat.lt_trichotomy i j with q | q | q
  · exact absurd (hi2.trans hj2.symm) (hp i j hi1 hj1 q)
  · exact q
  · exact absurd (hj2.trans hi2.symm) (hp j i hj1 hi1 q)
section
variable {P : Program} {w : World} {K : PySem.W.Frag} {mg : Str → Option Value} {base : Heap}
def TreeAt (T : Tx K mg) (H : Hp) (a : Addr) (ps : List (Int × Int)) : Prop := ∃ dx aa ma ba, H a = some (.ins T.Tree.C dx [("above", .ref aa), ("marks", .ref ma), ("below", .ref ba)]) ∧ SqT K H aa ((upsT ps).map V.int) ∧ SqT K H ma ((labsT ps).map V.int) ∧ Dp K H (.ref ba) (.tuple (belowT ps))
theorem TreeAt.up {T : Tx K mg} {H H' : Hp} {a : Addr} {ps : List (Int × Int)} (h : TreeAt T H a ps) (s : Same H H') : TreeAt T H' a ps :=
  let ⟨dx, aa, ma, ba, h1, h2, h3, h4⟩ := h
  ⟨dx, aa, ma, ba, s _ _ h1, sm_tp s h2, sm_tp s h3, dp_up s h4⟩
def sp_Treeinit (T : Tx K mg) : Sp := fun vs H Q _ => ∃ (x dx pa : Addr) (l : Int) (kf : Fo) (G : Hp), vs = [.ref x, .ref pa] ∧ H x = some (.ins T.Tree.C dx []) ∧ Same G H ∧ G x = none ∧ okF (.cons l kf .nil) ∧ szF (.cons l kf .nil) ≤ 400 ∧ Dp K G (.ref pa) (.list ((tabF (-1) 0 (.cons l kf .nil)).map dP)) ∧
  ∀ H' : Hp, Same G H' → TreeAt T (nw G H') x (tabF (-1) 0 (.cons l kf .nil)) → Q .non H'
theorem ok_Treeinit (T : Tx K mg) : FnOk P w K mg base CX0 1 T.d_Treeinit.a T.d_Treeinit.fd P_Treeinit (sp_Treeinit T) := by
  refine T.d_Treeinit.F.ok sc_Treeinit (fun vs H Q E h => ?_) (fun cdv A outer s H vs Q E hr h => ?_)
  · obtain ⟨_, _, _, _, _, _, rfl, _⟩ := h
    rfl
  · obtain ⟨x, dx, pa, l, kf, G, rfl, hx, sG, gx, hok, hsz, hd, k⟩ := h
    refine ⟨_, ((pss_cons (ps_if (pt_cmpR op_eq (pe_callB (r := cLen K) k_len (by rfl) T.b_len (by decide +kernel) (pa_cons (pv 1) pa_nil)) pe_int (nomark _)) 
    (pss_one ps_never) pss_nil)
  (pss_cons (ps_set (i := 2) sc_Treeinit.nd rfl (by first | exact Or.inl rfl | exact Or.inr rfl) (pe_lst pa_nil))
  (pss_cons (ps_set (i := 3) sc_Treeinit.nd rfl (by first | exact Or.inl rfl | exact Or.inr rfl) (pe_lst pa_nil))
  (pss_cons (ps_for PassesOwn.never rfl (pi_range1 rfl T.b_range (pa_cons (pe_callB (r := cLen K) k_len (by rfl) T.b_len (by decide +kernel) (pa_cons (pv 1) pa_nil)) pa_nil)) (pg_name (i := 4) sc_Treeinit.nd rfl (by first | exact Or.inl rfl | exact Or.inr rfl)) 
    (pss_cons (ps_asg (pe_ix (r := rIxL K) ix_list (pv 1) (pv 4) (fun _ _ => rfl)) (pg_tup (by rfl) (pgs_cons (pg_name (i := 5) sc_Treeinit.nd rfl (by first | exact Or.inl rfl | exact Or.inr rfl)) (pgs_cons (pg_name (i := 6) sc_Treeinit.nd rfl (by first | exact Or.inl rfl | exact Or.inr rfl)) pgs_nil))))
    (pss_cons (ps_while PassesOwn.never (PW.pt (pw_and (pt_cmpR op_gt (pe_callB (r := cLen K) k_len (by rfl) T.b_len (by decide +kernel) (pa_cons (pv 2) pa_nil)) pe_int (nomark _)) (pw_and1 (pt_cmpR op_gt (pe_ix (r := rIxL K) ix_list (pv 2) (pe_un un_neg pe_int) (fun _ _ => rfl)) (pv 5) (nomark _))))) 
      (pss_one (ps_expr (pe_bm0 PySem.F.plainAttrs_list PySem.F.slot_list_pop PySem.F.type_list_pop mt_pop (pv 2)))))
    (pss_cons (ps_if (pt_cmpR op_eq (pv 4) pe_int (nomark _)) 
      (pss_one (ps_set (i := 7) sc_Treeinit.nd rfl (by first | exact Or.inl rfl | exact Or.inr rfl) (pe_cmpR op_eq (pv 5) (pe_un un_neg pe_int) (nomark _)))) 
      (pss_one (ps_set (i := 7) sc_Treeinit.nd rfl (by first | exact Or.inl rfl | exact Or.inr rfl) (pe_and (pe_cmpR op_gt (pe_callB (r := cLen K) k_len (by rfl) T.b_len (by decide +kernel) (pa_cons (pv 2) pa_nil)) pe_int (nomark _)) (pe_one (pe_cmpR op_eq (pe_ix (r := rIxL K) ix_list (pv 2) (pe_un un_neg pe_int) (fun _ _ => rfl)) (pv 5) (nomark _)))))))
    (pss_cons (ps_if (PW.pt (pw_or (pt_not (pt_val (pv 7))) (pw_or1 (pt_not (pt_chain op_le op_le pe_int (pv 6) pe_int))))) 
      (pss_one ps_never) pss_nil)
    (pss_cons (ps_if (pt_cmpR op_gt (pv 4) pe_int (nomark _)) 
      (pss_one (ps_expr (pe_bm PySem.F.plainAttrs_list PySem.F.slot_list_append PySem.F.type_list_append mt_append (pe_ix (r := rIxL K) ix_list (pv 3) (pv 5) (fun _ _ => rfl)) (pa_cons (pv 4) pa_nil)))) pss_nil)
    (pss_cons (ps_expr (pe_bm PySem.F.plainAttrs_list PySem.F.slot_list_append PySem.F.type_list_append mt_append (pv 3) (pa_cons (pe_lst pa_nil) pa_nil)))
    (pss_one (ps_expr (pe_bm PySem.F.plainAttrs_list PySem.F.slot_list_append PySem.F.type_list_append mt_append (pv 2) (pa_cons (pv 4) pa_nil)))))))))))
  (pss_cons (ps_fld (pv 0) (pe_callTy (r := cTup K) k_tup (by rfl) T.b_tuple (by decide +kernel) (pa_cons (pe_lc (own := [("pair", 8)]) (g := gName 8) rfl sc_Treeinit.nd (pi_list (pv 1)) (blkOk_by (own := [("pair", 8)]) (N := N_Treeinit) (sc := defScope s_Treeinit) (by decide +kernel)) (fun _ _ _ _ _ => (pg_name (i := 8) sc_Treeinit.nd rfl (by first | exact Or.inl rfl | exact Or.inr rfl))) (fun _ _ _ _ _ => pts_nil) (fun _ _ _ _ _ => (pe_ix (r := rIxT K) ix_tup (pv 8) pe_int (fun _ _ => rfl)))) pa_nil)) rfl)
  (pss_cons (ps_fld (pv 0) (pe_callTy (r := cTup K) k_tup (by rfl) T.b_tuple (by decide +kernel) (pa_cons (pe_lc (own := [("pair", 8)]) (g := gName 8) rfl sc_Treeinit.nd (pi_list (pv 1)) (blkOk_by (own := [("pair", 8)]) (N := N_Treeinit) (sc := defScope s_Treeinit) (by decide +kernel)) (fun _ _ _ _ _ => (pg_name (i := 8) sc_Treeinit.nd rfl (by first | exact Or.inl rfl | exact Or.inr rfl))) (fun _ _ _ _ _ => pts_nil) (fun _ _ _ _ _ => (pe_ix (r := rIxT K) ix_tup (pv 8) pe_int (fun _ _ => rfl)))) pa_nil)) rfl)
  (pss_one (ps_fld (pv 0) (pe_callTy (r := cTup K) k_tup (by rfl) T.b_tuple (by decide +kernel) (pa_cons (pe_lc (own := [("row", 9)]) (g := gName 9) rfl sc_Treeinit.nd (pi_list (pv 3)) (blkOk_by (own := [("row", 9)]) (N := N_Treeinit) (sc := defScope s_Treeinit) (by decide +kernel)) (fun _ _ _ _ _ => (pg_name (i := 9) sc_Treeinit.nd rfl (by first | exact Or.inl rfl | exact Or.inr rfl))) (fun _ _ _ _ _ => pts_nil) (fun _ _ _ _ _ => (pe_callTy (r := cTup K) k_tup (by rfl) T.b_tuple (by decide +kernel) (pa_cons (pv 9) pa_nil)))) pa_nil)) rfl))))))))), ?_⟩
    try simp only [nxK, cxK]
    have cT := T.Tree.cl
    have n1 := T.n_Tree_above
    have n2 := T.n_Tree_marks
    have n3 := T.n_Tree_below
    obtain ⟨R, X, hrun, -⟩ := trun_all l kf
    have hlen := tabF_len (.cons l kf .nil) (-1) 0
    have hpos : 0 < (tabF (-1) 0 (.cons l kf .nil)).length := by rw [hlen]; simp only [szF]; omega
    have hups := tabF_up (.cons l kf .nil) (-1) 0 (by decide)
    have hlabs := tabF_lab (.cons l kf .nil) (-1) 0 hok
    rw [← hlen] at hsz
    generalize tabF (-1) 0 (.cons l kf .nil) = ps at *
    obtain ⟨_, us, e0, hpa, hus⟩ := dp_list' hd
    cases e0
    have hul : us.length = ps.length := by rw [dps_len hus, List.length_map]
    have hpaH := sG.seq hpa
    walk_at "rd"
    refine ifd (fun e => absurd e (by omega)) (fun _ => ?_)
    walk_at "rd"
    intro pl hpl
    walk_at "rd"
    intro kl hkl
    have nkp : kl ≠ pl := ne_fr upd_same hkl
    have gpl : G pl = none := sG.free hpl
    have gkl : G kl = none := sG.free (by walk_at "fr")
    have npx : pl ≠ x := ne_fr hx hpl
    have nkx : kl ≠ x := ne_fr ((upd_ne npx.symm).trans hx) hkl
    have hpa2 : SqL K (upd (upd H pl (HO.lst [])) kl (HO.lst [])) pa us := by
      refine Same.seq ?_ hpaH
      walk_at "sm"
    walk_at "rd"
    refine ⟨_, rfl, by omega, by omega, forJ walkR ⟨fun i σ H' => ∃ (R X : List Int) (as : List Addr) (v4 v5 v6 v7 : Option V), σ = [some (.ref x), some (.ref pa), some (.ref pl), some (.ref kl), v4, v5, v6, v7, none, none] ∧ Same G H' ∧
      (ps.take i).foldlM tstep (0, [], []) = some (i, R, X) ∧ H' x = some (.ins T.Tree.C dx []) ∧ H' pl = some (iLs X.reverse) ∧ H' kl = some (.lst (as.map V.ref)) ∧ as.length = i ∧ as.Nodup ∧
      (∀ (j : Nat) (b : Addr), as[j]? = some b → G b = none ∧ b ≠ pl ∧ b ≠ kl ∧ b ≠ x ∧ H' b = some (iLs (kidU ps i (j : Nat)))) ∧ X.length ≤ i ∧ (∀ z ∈ X, 0 ≤ z), ?_, fun _ _ _ _ _ => trivial, ?_, ?_⟩⟩
    · refine ⟨[], [], [], none, none, none, none, rfl, by walk_at "sm", rfl, (upd_ne nkx.symm).trans ((upd_ne npx.symm).trans hx), (upd_ne nkp.symm).trans upd_same, upd_same, rfl, .nil, fun j b e => by simp at e, Nat.le_refl _, by simp⟩
    · rintro i x1 σ H3 H4 hi ⟨R3, X3, as, v4, v5, v6, v7, rfl, s4, hst, hx4, hp4, hk4, hasl, hnd, has, lX, pX⟩ ⟨rfl, rfl⟩
      have hin : i < ps.length := by omega
      obtain ⟨s1, s2, g1, g2, g3⟩ := runM tstep _ _ _ hrun i ps[i] (List.getElem?_eq_getElem hin)
      rw [hst] at g1
      obtain rfl := Option.some.inj g1
      obtain ⟨up, lab, hq⟩ : ∃ up lab, ps[i] = (up, lab) := ⟨_, _, rfl⟩
      rw [hq] at g2
      have hqi : ps[i]? = some (up, lab) := by rw [List.getElem?_eq_getElem hin, hq]
      have hui : upA ps i = up := upA_at hqi
      obtain ⟨hu1, hu2⟩ := hups i _ hqi
      obtain ⟨hlb1, hlb2⟩ := hlabs _ (List.mem_of_getElem? hqi)
      have hu1 : -1 ≤ up := hu1
      have hu2 : up < ((0 + i : Nat) : Int) := hu2
      have hlb1 : 1 ≤ lab := hlb1
      have hlb2 : lab ≤ 9 := hlb2
      walk_at "rd"
      refine r_ixdG s4 hd (by omega) (d := dP (up, lab)) ?_ fun v hv => ?_
      · rw [Int.toNat_natCast, List.getElem?_map, hqi]
        rfl
      obtain ⟨ta, rfl, hta⟩ := dp_tints' (show Dp K G v (dTI [up, lab]) from hv)
      have htaH : SqT K H4 ta [.int up, .int lab] := sm_tp s4 hta
      walk_at "rd"
      refine r_while (fun m σ H' => ∃ W : List Int, m = W.length ∧ σ = [some (.ref x), some (.ref pa), some (.ref pl), some (.ref kl), some (.int (i : Nat)), some (.int up), some (.int lab), v7, none, none] ∧ But pl H4 H' ∧ H' pl = some (iLs W.reverse) ∧
        W.dropWhile (gtB up) = X3.dropWhile (gtB up) ∧ W.length ≤ i) X3.length ⟨X3, rfl, rfl, But.refl _, hp4, rfl, lX⟩ ?_
      rintro m σ H5 ⟨W, rfl, rfl, b5, hp5, hW, lW⟩
      have s5 : Same G H5 := sm_but s4 gpl b5
      have hx5 : H5 x = some (.ins T.Tree.C dx []) := hbut b5 npx.symm hx4
      have hk5 : H5 kl = some (.lst (as.map V.ref)) := hbut b5 nkp hk4
      have has5 : ∀ (j : Nat) (b : Addr), as[j]? = some b → G b = none ∧ b ≠ pl ∧ b ≠ kl ∧ b ≠ x ∧ H5 b = some (iLs (kidU ps i (j : Nat))) := fun j b e =>
        let ⟨z1, z2, z3, z4, z5⟩ := has j b e
        ⟨z1, z2, z3, z4, hbut b5 z2 z5⟩
      unfold iLs at hp5
      refine r_tT (match W with | [] => false | y :: _ => gtB up y) (fun R hR => ?_) (fun hb => ?_) (fun hb => ?_)
      · walk_at "rd"
        rw [List.length_map, List.length_reverse]
        cases W with
        | nil => exact hR
        | cons y r =>
          refine ifd (fun _ => ?_) (fun e => absurd (show (0 : Int) < (((y :: r).length : Nat) : Int) from by rw [List.length_cons]; omega) e)
          rw [List.reverse_cons, List.map_append] at hp5
          walk_at "rd"
          exact hR
      · cases W with
        | nil => cases hb
        | cons y r =>
          refine wh ?_
          rw [List.reverse_cons, List.map_append] at hp5
          walk_at "rd"
          refine r_pop (xs := r.reverse.map V.int) (y := .int y) hp5 ?_
          walk_at "rd"
          refine ⟨r.length, by simp, r, rfl, rfl, b5.set, upd_same, ?_, by simp at lW; omega⟩
          rw [← hW, List.dropWhile_cons, if_pos hb]
      · have eW : X3.dropWhile (gtB up) = W := by
          rw [← hW]
          cases W with
          | nil => rfl
          | cons y r => rw [List.dropWhile_cons, if_neg (by rw [show gtB up y = false from hb]; decide)]
        clear hW hb
        have ek : ∀ j : Nat, kidU ps (i + 1) (j : Nat) = kidU ps i (j : Nat) ++ if up = (j : Int) then [(i : Int)] else [] := fun j => by rw [kidU_step, hui]
        have es : kidU ps (i + 1) (i : Nat) = [] := kidU_self hups hin
        have pW : ∀ z ∈ (i : Int) :: W, 0 ≤ z := fun z hz => by
          rcases List.mem_cons.mp hz with e | e
          · omega
          · rw [← eW] at e
            exact pX z ((List.dropWhile_sublist _).subset e)
        have fin : ∀ (Hb : Hp) (q : Addr) (R' : List Int), Same G Hb → Hb x = some (.ins T.Tree.C dx []) → Hb pl = some (.lst (W.reverse.map V.int)) → Hb kl = some (.lst (as.map V.ref)) → (∀ (j : Nat) (b : Addr), as[j]? = some b → Hb b = some (iLs (kidU ps (i + 1) (j : Nat)))) → Hb q = none → s2 = (i + 1, R', (i : Int) :: W) →
            Same G (upd (upd (upd Hb q (.lst [])) kl (.lst (as.map V.ref ++ [.ref q]))) pl (.lst (W.reverse.map V.int ++ [.int (i : Nat)]))) ∧ (ps.take (i + 1)).foldlM tstep (0, [], []) = some (i + 1, R', (i : Int) :: W) ∧
            (upd (upd (upd Hb q (.lst [])) kl (.lst (as.map V.ref ++ [.ref q]))) pl (.lst (W.reverse.map V.int ++ [.int (i : Nat)]))) x = some (.ins T.Tree.C dx []) ∧
            (upd (upd (upd Hb q (.lst [])) kl (.lst (as.map V.ref ++ [.ref q]))) pl (.lst (W.reverse.map V.int ++ [.int (i : Nat)]))) pl = some (iLs ((i : Int) :: W).reverse) ∧
            (upd (upd (upd Hb q (.lst [])) kl (.lst (as.map V.ref ++ [.ref q]))) pl (.lst (W.reverse.map V.int ++ [.int (i : Nat)]))) kl = some (.lst ((as ++ [q]).map V.ref)) ∧ (as ++ [q]).length = i + 1 ∧ (as ++ [q]).Nodup ∧
            (∀ (j : Nat) (b : Addr), (as ++ [q])[j]? = some b → G b = none ∧ b ≠ pl ∧ b ≠ kl ∧ b ≠ x ∧ (upd (upd (upd Hb q (.lst [])) kl (.lst (as.map V.ref ++ [.ref q]))) pl (.lst (W.reverse.map V.int ++ [.int (i : Nat)]))) b = some (iLs (kidU ps (i + 1) (j : Nat)))) ∧ ((i : Int) :: W).length ≤ i + 1 ∧ (∀ z ∈ (i : Int) :: W, 0 ≤ z) := by
          intro Hb q R' sb hbx hbp hbk hba hbq es2
          have nqp : q ≠ pl := ne_fr hbp hbq
          have nqk : q ≠ kl := ne_fr hbk hbq
          have nqx : q ≠ x := ne_fr hbx hbq
          have nqa : ∀ (j : Nat) (b : Addr), as[j]? = some b → q ≠ b := fun j b e => ne_fr (hba j b e) hbq
          refine ⟨sm_mut (sm_mut (sb.trans (sm_up hbq)) gkl) gpl, by rw [g3, es2], ?_, ?_, ?_, by rw [List.length_append, hasl]; rfl, ?_, ?_, by rw [List.length_cons]; omega, pW⟩
          · rw [upd_ne npx.symm, upd_ne nkx.symm, upd_ne nqx.symm]
            exact hbx
          · rw [upd_same, iLs, List.reverse_cons, List.map_append]
            rfl
          · rw [upd_ne nkp, upd_same, List.map_append]
            rfl
          · refine List.nodup_append.mpr ⟨hnd, by simp, fun a ha c hc => ?_⟩
            rw [List.mem_singleton.mp hc]
            obtain ⟨j, hj, rfl⟩ := List.mem_iff_getElem.mp ha
            exact (nqa j _ (List.getElem?_eq_getElem hj)).symm
          · intro j b e
            rw [List.getElem?_append] at e
            by_cases hj : j < as.length
            · rw [if_pos hj] at e
              obtain ⟨z1, z2, z3, z4, z5⟩ := has5 j b e
              refine ⟨z1, z2, z3, z4, ?_⟩
              rw [upd_ne z2, upd_ne z3, upd_ne (nqa j b e).symm]
              exact hba j b e
            · rw [if_neg hj] at e
              have hj2 : j = as.length := by
                cases e3 : j - as.length with
                | zero => omega
                | succ n =>
                  rw [e3] at e
                  simp at e
              subst hj2
              rw [Nat.sub_self] at e
              have e4 : q = b := by simpa using e
              subst e4
              refine ⟨sb.free hbq, nqp, nqk, nqx, ?_⟩
              rw [upd_ne nqp, upd_ne nqk, upd_same, hasl, es]
              rfl
        have lab8 : lab ≤ 9 := hlb2
        cases i with
        | zero =>
          have hc : up = -1 ∧ X3 = [] := Decidable.byContradiction fun q => by
            have : tstep (0, R3, X3) (up, lab) = none := if_neg q
            rw [this] at g2
            cases g2
          obtain ⟨rfl, rfl⟩ := hc
          have e2 : s2 = (1, R3 ++ [lab], [0]) := (Option.some.inj g2).symm
          obtain rfl : W = [] := by
            rw [← eW]
            rfl
          have eas : as = [] := List.length_eq_zero_iff.mp hasl
          walk_at "rd"
          refine ifd (fun _ => ?_) (fun e => absurd rfl e)
          walk_at "rd"
          refine iteF ?_
          walk_at "rd"
          refine ifd (fun _ => ?_) (fun e => absurd hlb1 e)
          walk_at "rd"
          refine ifnd (fun e => absurd hlb2 e) (fun _ => ?_)
          walk_at "rd"
          refine ifd (fun e => absurd e (by decide)) (fun _ => ?_)
          walk_at "rd"
          intro q hq
          have nqk : q ≠ kl := ne_fr hk5 hq
          have nqp : q ≠ pl := ne_fr hp5 hq
          walk_at "rd"
          obtain ⟨f1, f2, f3, f4, f5, f6, f7, f8, f9, f10⟩ := fin H5 q (R3 ++ [lab]) s5 hx5 hp5 hk5 (fun j b e => by rw [eas] at e; simp at e) hq e2
          exact ⟨_, _, as ++ [q], _, _, _, _, rfl, f1, f2, f3, f4, f5, f6, f7, f8, f9, f10⟩
        | succ i =>
          rw [tstep_succ, eW] at g2
          have hh : W.head? = some up := Decidable.byContradiction fun q => by
            rw [if_neg q] at g2
            cases g2
          rw [if_pos hh] at g2
          obtain ⟨r, rfl⟩ : ∃ r, W = up :: r := by
            cases W with
            | nil => cases hh
            | cons y r =>
              obtain rfl := Option.some.inj hh
              exact ⟨r, rfl⟩
          have e2 := (Option.some.inj g2).symm
          have hp6 : H5 pl = some (.lst (r.reverse.map V.int ++ [V.int up])) := by
            rw [hp5, List.reverse_cons, List.map_append]
            rfl
          walk_at "rd"
          have hup0 : 0 ≤ up := pW up (by simp)
          have hupl : up.toNat < as.length := by omega
          have hgu : (as.map V.ref)[up.toNat]? = some (V.ref as[up.toNat]) := by rw [List.getElem?_map, List.getElem?_eq_getElem hupl]; rfl
          obtain ⟨z1, z2, z3, z4, z5⟩ := has5 up.toNat as[up.toNat] (List.getElem?_eq_getElem hupl)
          generalize has' : as[up.toNat] = c at *
          have hkl5 := kidU_len ps (i + 1) (up.toNat : Nat)
          refine ifd (fun e => absurd e (by omega)) (fun _ => ?_)
          walk_at "rd"
          refine ifd (fun _ => ?_) (fun e => absurd (show (0 : Int) < _ from by rw [List.length_append, List.length_singleton]; omega) e)
          walk_at "rd"
          refine ifnd (fun e => absurd rfl e) (fun _ => ?_)
          walk_at "rd"
          refine ifd (fun _ => ?_) (fun e => absurd hlb1 e)
          walk_at "rd"
          refine ifnd (fun e => absurd hlb2 e) (fun _ => ?_)
          walk_at "rd"
          refine ifd (fun _ => ?_) (fun e => absurd (show (0 : Int) < ((i + 1 : Nat) : Int) by omega) e)
          walk_at "rd"
          refine r_ix (SqL.of hk5) hup0 (by rw [List.length_map]; omega) fun v hv2 => ?_
          rw [hgu] at hv2
          obtain rfl := Option.some.inj hv2
          unfold iLs at z5
          walk_at "rd"
          intro q hq
          have eb : (upd H5 c (.lst ((kidU ps (i + 1) (up.toNat : Nat)).map V.int ++ [V.int ((i + 1 : Nat) : Int)]))) c = some (iLs (kidU ps (i + 2) (up.toNat : Nat))) := by
            rw [upd_same, ek, if_pos (by omega), iLs, List.map_append]
            rfl
          have nck : c ≠ kl := z3
          have hc5 : ∀ (j : Nat) (b : Addr), as[j]? = some b → (upd H5 c (.lst ((kidU ps (i + 1) (up.toNat : Nat)).map V.int ++ [V.int ((i + 1 : Nat) : Int)]))) b = some (iLs (kidU ps (i + 2) (j : Nat))) := fun j b e => by
            by_cases hj : j = up.toNat
            · subst hj
              rw [List.getElem?_eq_getElem hupl, has'] at e
              obtain rfl := Option.some.inj e
              exact eb
            · have hjl : j < as.length := (List.getElem?_eq_some_iff.mp e).1
              have hne : b ≠ c := fun q => hj (nodup_inj hnd e (by rw [List.getElem?_eq_getElem hupl, has', q]))
              rw [upd_ne hne, ek, if_neg (by omega), List.append_nil]
              exact (has5 j b e).2.2.2.2
          have hk6 : (upd H5 c (.lst ((kidU ps (i + 1) (up.toNat : Nat)).map V.int ++ [V.int ((i + 1 : Nat) : Int)]))) kl = some (.lst (as.map V.ref)) := (upd_ne nck.symm).trans hk5
          have hp7 : (upd H5 c (.lst ((kidU ps (i + 1) (up.toNat : Nat)).map V.int ++ [V.int ((i + 1 : Nat) : Int)]))) pl = some (.lst ((up :: r).reverse.map V.int)) := (upd_ne z2.symm).trans hp5
          have nqk : q ≠ kl := ne_fr hk6 hq
          have nqp : q ≠ pl := ne_fr hp7 hq
          have lr : r.length ≤ 400 := by
            rw [List.length_cons] at lW
            omega
          walk_at "rd"
          obtain ⟨f1, f2, f3, f4, f5, f6, f7, f8, f9, f10⟩ := fin _ q (R3 ++ zs (X3.takeWhile (gtB up)).length ++ [lab]) (sm_mut s5 z1) ((upd_ne z4.symm).trans hx5) hp7 hk6 hc5 hq e2
          exact ⟨_, _, as ++ [q], _, _, _, _, rfl, f1, f2, f3, f4, f5, f6, f7, f8, f9, f10⟩
    · rintro σ H3 ⟨R3, X3, as, v4, v5, v6, v7, rfl, s4, hst, hx4, hp4, hk4, hasl, hnd, has, lX, pX⟩
      have hpa4 : SqL K H3 pa us := s4.seq hpa
      have eun : (us.length : Int).toNat = ps.length := by rw [hul]; exact Int.toNat_natCast _
      rw [eun] at hasl
      rw [eun] at has
      walk_at "rd"
      refine ⟨_, rfl, ⟨_, hpa4⟩, lcJ (walk_list (xs := us)) (fun H' s => s.seq hpa4) ⟨by omega, fun D1 hD1 => ⟨fun j acc _ => acc = ((upsT ps).take j).map V.int, rfl, ?_, ?_⟩⟩⟩
      · rintro j v acc H4 H5 hj ⟨rfl, hv⟩ s5 hD5 hl5 rfl
        obtain ⟨d, hd1, hd2⟩ := dps_get' hus hv
        obtain ⟨pq, hpq, rfl⟩ := map_get hd1
        obtain ⟨ta, rfl, hta⟩ := dp_tints' (show Dp K G v (dTI [pq.1, pq.2]) from hd2)
        walk_at "rd"
        refine iteT ?_
        walk_at "rd"
        refine r_ixTI (sm_tp (s4.trans s5) hta) (by decide) (by simp) fun n hn => ?_
        obtain rfl := Option.some.inj hn
        refine lcIn s5 hD1 hD5 hl5 (by omega) ?_
        rw [List.take_add_one, show (upsT ps)[j]? = some pq.1 from by unfold upsT; rw [List.getElem?_map, hpq]; rfl, List.map_append]
        rfl
      · rintro acc H4 s5 hD4 hl4 rfl
        have eup : (upsT ps).take us.length = upsT ps := by
          rw [hul, show ps.length = (upsT ps).length from by unfold upsT; rw [List.length_map], List.take_length]
        rw [eup] at hD4
        have hx5 := s5 _ _ hx4
        have hk5 := s5 _ _ hk4
        have gD1 : G D1 = none := s4.free hD1
        walk_at "rd"
        intro t1 ht1
        have nt1 : t1 ≠ x := ne_fr hx5 ht1
        have s6 : Same G (upd H4 t1 (.tup ((upsT ps).map V.int))) := (s4.trans s5).trans (sm_up ht1)
        have hx6 : (upd H4 t1 (.tup ((upsT ps).map V.int))) x = some (.ins T.Tree.C dx []) := (upd_ne nt1.symm).trans hx5
        walk_at "rd"
        try rw [show putF (Str.ofString "above") (V.ref t1) [] = ([("above", V.ref t1)] : List (Str × V)) from rfl]
        have s7 : Same G (upd (upd H4 t1 (.tup ((upsT ps).map V.int))) x (.ins T.Tree.C dx [("above", .ref t1)])) := sm_mut s6 gx
        have hx7 : (upd (upd H4 t1 (.tup ((upsT ps).map V.int))) x (.ins T.Tree.C dx [("above", .ref t1)])) x = some (.ins T.Tree.C dx [("above", .ref t1)]) := upd_same
        have b7 : But x H3 (upd (upd H4 t1 (.tup ((upsT ps).map V.int))) x (.ins T.Tree.C dx [("above", .ref t1)])) := (But.same (s5.trans (sm_up ht1))).set
        have ht17 : (upd (upd H4 t1 (.tup ((upsT ps).map V.int))) x (.ins T.Tree.C dx [("above", .ref t1)])) t1 = some (.tup ((upsT ps).map V.int)) := (upd_ne nt1).trans upd_same
        have gt1 : G t1 = none := (s4.trans s5).free ht1
        generalize upd (upd H4 t1 (.tup ((upsT ps).map V.int))) x (.ins T.Tree.C dx [("above", .ref t1)]) = H7 at *
        have hpa7 : SqL K H7 pa us := s7.seq hpa
        refine ⟨_, rfl, ⟨_, hpa7⟩, lcJ (walk_list (xs := us)) (fun H' s => s.seq hpa7) ⟨by omega, fun D2 hD2 => ⟨fun j acc _ => acc = ((labsT ps).take j).map V.int, rfl, ?_, ?_⟩⟩⟩
        · rintro j v acc H8 H9 hj ⟨rfl, hv⟩ s8 hD8 hl8 rfl
          obtain ⟨d, hd1, hd2⟩ := dps_get' hus hv
          obtain ⟨pq, hpq, rfl⟩ := map_get hd1
          obtain ⟨ta, rfl, hta⟩ := dp_tints' (show Dp K G v (dTI [pq.1, pq.2]) from hd2)
          walk_at "rd"
          refine iteT ?_
          walk_at "rd"
          refine r_ixTI (sm_tp (s7.trans s8) hta) (by decide) (by simp) fun n hn => ?_
          obtain rfl := Option.some.inj hn
          refine lcIn s8 hD2 hD8 hl8 (by omega) ?_
          rw [List.take_add_one, show (labsT ps)[j]? = some pq.2 from by unfold labsT; rw [List.getElem?_map, hpq]; rfl, List.map_append]
          rfl
        · rintro acc H8 s8 hD8 hl8 rfl
          have eLb : (labsT ps).take us.length = labsT ps := by
            rw [hul, show ps.length = (labsT ps).length from by unfold labsT; rw [List.length_map], List.take_length]
          rw [eLb] at hD8
          have hx8 := s8 _ _ hx7
          walk_at "rd"
          intro t2 ht2
          have nt2 : t2 ≠ x := ne_fr hx8 ht2
          have hx9 : (upd H8 t2 (.tup ((labsT ps).map V.int))) x = some (.ins T.Tree.C dx [("above", .ref t1)]) := (upd_ne nt2.symm).trans hx8
          walk_at "rd"
          try rw [show putF (Str.ofString "marks") (V.ref t2) [("above", V.ref t1)] = ([("above", V.ref t1), ("marks", V.ref t2)] : List (Str × V)) from rfl]
          have s10 : Same G (upd (upd H8 t2 (.tup ((labsT ps).map V.int))) x (.ins T.Tree.C dx [("above", .ref t1), ("marks", .ref t2)])) := sm_mut ((s7.trans s8).trans (sm_up ht2)) gx
          have hx10 : (upd (upd H8 t2 (.tup ((labsT ps).map V.int))) x (.ins T.Tree.C dx [("above", .ref t1), ("marks", .ref t2)])) x = some (.ins T.Tree.C dx [("above", .ref t1), ("marks", .ref t2)]) := upd_same
          have b10 : But x H7 (upd (upd H8 t2 (.tup ((labsT ps).map V.int))) x (.ins T.Tree.C dx [("above", .ref t1), ("marks", .ref t2)])) := (But.same (s8.trans (sm_up ht2))).set
          have ht210 : (upd (upd H8 t2 (.tup ((labsT ps).map V.int))) x (.ins T.Tree.C dx [("above", .ref t1), ("marks", .ref t2)])) t2 = some (.tup ((labsT ps).map V.int)) := (upd_ne nt2).trans upd_same
          have gt2 : G t2 = none := (s7.trans s8).free ht2
          generalize upd (upd H8 t2 (.tup ((labsT ps).map V.int))) x (.ins T.Tree.C dx [("above", .ref t1), ("marks", .ref t2)]) = H10 at *
          have ht110 : H10 t1 = some (.tup ((upsT ps).map V.int)) := hbut b10 nt1 ht17
          have hk10 : H10 kl = some (.lst (as.map V.ref)) := hbut b10 nkx (hbut b7 nkx hk4)
          have has10 : ∀ (j : Nat) (b : Addr), as[j]? = some b → H10 b = some (iLs (kidU ps ps.length (j : Nat))) := fun j b e =>
            let ⟨_, _, _, z4, z5⟩ := has j b e
            hbut b10 z4 (hbut b7 z4 z5)
          have hkl10 : SqL K H10 kl (as.map V.ref) := SqL.of hk10
          refine ⟨_, rfl, ⟨_, hkl10⟩, lcJ (walk_list (xs := as.map V.ref)) (fun H' s => s.seq hkl10) ⟨by rw [List.length_map]; omega, fun D3 hD3 => ⟨fun j acc Gq => DpAll K (wo (nw G Gq) x) acc ((belowT ps).take j), .nil, ?_, ?_⟩⟩⟩
          · rintro j v acc H11 H12 hj ⟨rfl, hv⟩ s11 hD11 hl11 hacc
            obtain ⟨b, hb, rfl⟩ := map_get hv
            rw [List.length_map] at hj
            have hb11 : SqL K H12 b ((kidU ps ps.length (j : Nat)).map V.int) := SqL.of (s11 _ _ (has10 j b hb))
            walk_at "rd"
            refine iteT ?_
            walk_at "rd"
            intro t ht
            have ntD : t ≠ D3 := ne_fr hD11 ht
            have gt : G t = none := (s10.trans s11).free ht
            refine lcIn (s11.trans (sm_up ht)) hD3 ((upd_ne ntD.symm).trans hD11) hl11 (by omega) ?_
            rw [List.take_add_one, show (belowT ps)[j]? = some (dTI (kidU ps ps.length (j : Nat))) from by
              unfold belowT
              rw [List.getElem?_map, List.getElem?_range (by omega)]
              rfl]
            have ntx : t ≠ x := ne_fr (s11 _ _ hx10) ht
            refine dps_app (dps_up (ng_up (wo_mono (sm_up ht))) hacc) (.cons (dp_tints (SqT.of ?_)) .nil)
            rw [wo_ne ntx, nw_at gt, wo_ne ntD, upd_same]
          · rintro acc H11 s11 hD11 hl11 hacc
            have ebl : (belowT ps).take (as.map V.ref).length = belowT ps := by
              rw [List.length_map, hasl, show ps.length = (belowT ps).length from by unfold belowT; rw [List.length_map, List.length_range], List.take_length]
            rw [ebl] at hacc
            have hx11 := s11 _ _ hx10
            walk_at "rd"
            intro t3 ht3
            have nt3 : t3 ≠ x := ne_fr hx11 ht3
            have gt3 : G t3 = none := (s10.trans s11).free ht3
            have hx12 : (upd H11 t3 (.tup acc)) x = some (.ins T.Tree.C dx [("above", .ref t1), ("marks", .ref t2)]) := (upd_ne nt3.symm).trans hx11
            walk_at "rd"
            try rw [show putF (Str.ofString "below") (V.ref t3) [("above", V.ref t1), ("marks", V.ref t2)] = ([("above", V.ref t1), ("marks", V.ref t2), ("below", V.ref t3)] : List (Str × V)) from rfl]
            refine k _ (sm_mut ((s10.trans s11).trans (sm_up ht3)) gx) ⟨dx, t1, t2, t3, (nw_at gx).trans upd_same, SqT.of ?_, SqT.of ?_, .tup (SqT.of (xs := acc) ?_) ?_⟩
            · rw [nw_at gt1, upd_ne nt1]
              exact hget (s11.trans (sm_up ht3)) ht110
            · rw [nw_at gt2, upd_ne nt2]
              exact hget (s11.trans (sm_up ht3)) ht210
            · rw [nw_at gt3, upd_ne nt3, upd_same]
            · refine dps_up ?_ hacc
              intro q o e
              have hqx : q ≠ x := fun z => by
                rw [z, wo_at] at e
                cases e
              rw [wo_ne hqx] at e
              have e2 := nw_up (H := G) (H4 := wo H11 D3) (H5 := H11) sm_wo q o e
              have e3 := nw_up (H := G) (sm_up ht3 (o := .tup acc)) q o e2
              unfold nw at e3 ⊢
              split
              · rw [if_pos (by assumption)] at e3
                rw [upd_ne hqx]
                exact e3
              · rw [if_neg (by assumption)] at e3
                cases e3
end

section
variable {P : Program} {w : World} {K : PySem.W.Frag} {mg : Str → Option Value} {base : Heap}
theorem upsT_len (ps : List (Int × Int)) : (upsT ps).length = ps.length := by unfold upsT; rw [List.length_map]
theorem labsT_len (ps : List (Int × Int)) : (labsT ps).length = ps.length := by unfold labsT; rw [List.length_map]
theorem belowT_len (ps : List (Int × Int)) : (belowT ps).length = ps.length := by unfold belowT; rw [List.length_map, List.length_range]
theorem labsT_at {ps : List (Int × Int)} {i : Nat} {n : Int} (h : (labsT ps)[i]? = some n) : n = labA ps i := by
  unfold labsT at h
  obtain ⟨q, e, rfl⟩ := map_get h
  rw [labA_at e]
theorem upsT_at {ps : List (Int × Int)} {i : Nat} {n : Int} (h : (upsT ps)[i]? = some n) : n = upA ps i := by
  unfold upsT at h
  obtain ⟨q, e, rfl⟩ := map_get h
  rw [upA_at e]
def sp_Tree_nodes (T : Tx K mg) : Sp := fun vs H Q _ => ∃ (a : Addr) (ps : List (Int × Int)), vs = [.ref a] ∧ TreeAt T H a ps ∧ Q (.int (ps.length : Nat)) H
theorem ok_Tree_nodes (T : Tx K mg) : FnOk P w K mg base CX0 1 T.d_Tree_nodes.a T.d_Tree_nodes.fd P_Tree_nodes (sp_Tree_nodes T) := by
  refine T.d_Tree_nodes.F.ok sc_Tree_nodes (fun vs H Q E h => ?_) (fun cdv A outer s H vs Q E hr h => ?_)
  · obtain ⟨_, _, rfl, _⟩ := h
    rfl
  · obtain ⟨a, ps, rfl, ⟨dx, aa, ma, ba, h1, h2, h3, h4⟩, k⟩ := h
    refine ⟨_, ((pss_one (ps_ret (pe_callB (r := cLen K) k_len (by rfl) T.b_len (by decide +kernel) (pa_cons (pe_fld (pv 0) rfl) pa_nil))))), ?_⟩
    try simp only [nxK, cxK]
    have cT := T.Tree.cl
    have n1 := T.n_Tree_above
    walk_at "rd"
    rw [List.length_map, upsT_len]
    exact k
def sp_Tree_label_of (T : Tx K mg) : Sp := fun vs H Q _ => ∃ (a : Addr) (ps : List (Int × Int)) (v : Int), vs = [.ref a, .int v] ∧ TreeAt T H a ps ∧ 0 ≤ v ∧ v < ps.length ∧ Q (.int (labA ps v.toNat)) H
theorem ok_Tree_label_of (T : Tx K mg) : FnOk P w K mg base CX0 1 T.d_Tree_label_of.a T.d_Tree_label_of.fd P_Tree_label_of (sp_Tree_label_of T) := by
  refine T.d_Tree_label_of.F.ok sc_Tree_label_of (fun vs H Q E h => ?_) (fun cdv A outer s H vs Q E hr h => ?_)
  · obtain ⟨_, _, _, rfl, _⟩ := h
    rfl
  · obtain ⟨a, ps, v, rfl, ⟨dx, aa, ma, ba, h1, h2, h3, h4⟩, v0, v1, k⟩ := h
    refine ⟨_, ((pss_cons (ps_if (pt_not (pt_chain op_le op_lt pe_int (pv 1) (pe_callB (r := cLen K) k_len (by rfl) T.b_len (by decide +kernel) (pa_cons (pe_fld (pv 0) rfl) pa_nil)))) 
    (pss_one ps_never) pss_nil)
  (pss_one (ps_ret (pe_ix (r := rIxT K) ix_tup (pe_fld (pv 0) rfl) (pv 1) (fun _ _ => rfl)))))), ?_⟩
    try simp only [nxK, cxK]
    have cT := T.Tree.cl
    have n1 := T.n_Tree_above
    have n2 := T.n_Tree_marks
    have l1 := upsT_len ps
    have l2 := labsT_len ps
    walk_at "rd"
    refine ifd (fun _ => ?_) (fun e => absurd v0 e)
    walk_at "rd"
    rw [List.length_map, l1]
    refine ifnd (fun e => absurd v1 e) (fun _ => ?_)
    walk_at "rd"
    refine r_ixTI h3 v0 (by omega) fun n hn => ?_
    rw [labsT_at hn]
    exact k
def sp_Tree_kids_of (T : Tx K mg) : Sp := fun vs H Q _ => ∃ (a : Addr) (ps : List (Int × Int)) (v : Int), vs = [.ref a, .int v] ∧ TreeAt T H a ps ∧ 0 ≤ v ∧ v < ps.length ∧ ∀ (l : Addr) (H' : Hp), Same H H' → H l = none → H' l = some (iLs (iN (kidN ps v))) → Q (.ref l) H'
theorem ok_Tree_kids_of (T : Tx K mg) : FnOk P w K mg base CX0 1 T.d_Tree_kids_of.a T.d_Tree_kids_of.fd P_Tree_kids_of (sp_Tree_kids_of T) := by
  refine T.d_Tree_kids_of.F.ok sc_Tree_kids_of (fun vs H Q E h => ?_) (fun cdv A outer s H vs Q E hr h => ?_)
  · obtain ⟨_, _, _, rfl, _⟩ := h
    rfl
  · obtain ⟨a, ps, v, rfl, ⟨dx, aa, ma, ba, h1, h2, h3, h4⟩, v0, v1, k⟩ := h
    refine ⟨_, ((pss_cons (ps_if (pt_not (pt_chain op_le op_lt pe_int (pv 1) (pe_callB (r := cLen K) k_len (by rfl) T.b_len (by decide +kernel) (pa_cons (pe_fld (pv 0) rfl) pa_nil)))) 
    (pss_one ps_never) pss_nil)
  (pss_one (ps_ret (pe_callTy (r := cLst K) k_lst (by rfl) T.b_list (by decide +kernel) (pa_cons (pe_ix (r := rIxT K) ix_tup (pe_fld (pv 0) rfl) (pv 1) (fun _ _ => rfl)) pa_nil)))))), ?_⟩
    try simp only [nxK, cxK]
    have cT := T.Tree.cl
    have n1 := T.n_Tree_above
    have n3 := T.n_Tree_below
    have l1 := upsT_len ps
    walk_at "rd"
    refine ifd (fun _ => ?_) (fun e => absurd v0 e)
    walk_at "rd"
    rw [List.length_map, l1]
    refine ifnd (fun e => absurd v1 e) (fun _ => ?_)
    walk_at "rd"
    refine r_ixtd (d := dTI (iN (kidN ps v))) h4 v0 ?_ fun u hu => ?_
    · unfold belowT
      rw [List.getElem?_map, List.getElem?_range (by omega)]
      show some (dTI (iN (kidN ps ((v.toNat : Nat) : Int)))) = _
      rw [Int.toNat_of_nonneg v0]
    · obtain ⟨b, rfl, hb⟩ := dp_tints' hu
      walk_at "rd"
      intro l hl
      exact k l _ (sm_up hl) hl upd_same
def sp_Tree_entries (T : Tx K mg) : Sp := fun vs H Q _ => ∃ (a : Addr) (ps : List (Int × Int)), vs = [.ref a] ∧ TreeAt T H a ps ∧ ps.length ≤ 1000 ∧ ∀ (l : Addr) (H' : Hp), Same H H' → H l = none → Dp K (nw H H') (.ref l) (.list (ps.map dP)) → Q (.ref l) H'
theorem ok_Tree_entries (T : Tx K mg) : FnOk P w K mg base CX0 1 T.d_Tree_entries.a T.d_Tree_entries.fd P_Tree_entries (sp_Tree_entries T) := by
  refine T.d_Tree_entries.F.ok sc_Tree_entries (fun vs H Q E h => ?_) (fun cdv A outer s H vs Q E hr h => ?_)
  · obtain ⟨_, _, rfl, _⟩ := h
    rfl
  · obtain ⟨a, ps, rfl, ⟨dx, aa, ma, ba, h1, h2, h3, h4⟩, hl, k⟩ := h
    refine ⟨_, ((pss_one (ps_ret (pe_lc (own := [("node", 1)]) (g := gName 1) rfl sc_Tree_entries.nd (pi_range1 rfl T.b_range (pa_cons (pe_callB (r := cLen K) k_len (by rfl) T.b_len (by decide +kernel) (pa_cons (pe_fld (pv 0) rfl) pa_nil)) pa_nil)) (blkOk_by (own := [("node", 1)]) (N := N_Tree_entries) (sc := defScope s_Tree_entries) (by decide +kernel)) (fun _ _ _ _ _ => (pg_name (i := 1) sc_Tree_entries.nd rfl (by first | exact Or.inl rfl | exact Or.inr rfl))) (fun _ _ _ _ _ => pts_nil) (fun _ _ _ _ _ => (pe_tup (pa_cons (pe_ix (r := rIxT K) ix_tup (show PE _ _ (tFld K _ _) from pe_fld (pv 0) rfl) (pv 1) (fun _ _ => rfl)) (pa_cons (pe_ix (r := rIxT K) ix_tup (show PE _ _ (tFld K _ _) from pe_fld (pv 0) rfl) (pv 1) (fun _ _ => rfl)) pa_nil)))))))), ?_⟩
    try simp only [nxK, cxK]
    have cT := T.Tree.cl
    have n1 := T.n_Tree_above
    have n2 := T.n_Tree_marks
    have l1 := upsT_len ps
    have l2 := labsT_len ps
    walk_at "rd"
    rw [List.length_map, l1]
    refine ⟨_, rfl, by omega, by omega, lcJ walkR (fun _ _ => trivial) ⟨by omega, fun D hD => ⟨fun j acc Gq => DpAll K (nw H Gq) acc ((ps.take j).map dP), .nil, ?_, ?_⟩⟩⟩
    · rintro j x acc H2 H3 hj ⟨rfl, rfl⟩ s1 hD' hl' hacc
      have hj' : j < ps.length := by omega
      have h1' := s1 _ _ h1
      walk_at "rd"
      refine iteT ?_
      walk_at "rd"
      refine r_ixTI (sm_tp s1 h2) (by omega) (by omega) fun n hn => ?_
      obtain rfl := upsT_at hn
      walk_at "rd"
      refine r_ixTI (sm_tp s1 h3) (by omega) (by omega) fun n hn => ?_
      obtain rfl := labsT_at hn
      walk_at "rd"
      intro t ht
      have ntD : t ≠ D := ne_fr hD' ht
      refine lcIn (s1.trans (sm_up ht)) hD ((upd_ne ntD.symm).trans hD') hl' (by omega) ?_
      have hpj : ps[j]? = some ps[j] := List.getElem?_eq_getElem hj'
      rw [List.take_add_one, hpj, List.map_append]
      refine dps_app (dps_up (nw_up (wo_mono (sm_up ht))) hacc) (.cons (dp_tints (ns := [_, _]) (SqT.of ?_)) .nil)
      rw [nw_at (s1.free ht), wo_ne ntD, upd_same, Int.toNat_natCast, upA_at hpj, labA_at hpj]
      rfl
    · rintro acc H2 s1 hD' hl' hacc
      rw [Int.toNat_natCast, List.take_length] at hacc
      exact k D H2 s1 hD (.lst (SqL.of ((nw_at hD).trans hD')) (dps_up (nw_up sm_wo) hacc))
def sp_row_of_tree (T : Tx K mg) : Sp := fun vs H Q _ => ∃ (a : Addr) (l : Int) (kf : Fo), vs = [.ref a] ∧ TreeAt T H a (tabF (-1) 0 (.cons l kf .nil)) ∧ szF (.cons l kf .nil) ≤ 400 ∧ ∀ (q : Addr) (H' : Hp), Same H H' → H q = none → H' q = some (iLs (rowF (.cons l kf .nil))) → Q (.ref q) H'
theorem ok_row_of_tree (T : Tx K mg) : FnOk P w K mg base CX0 2 T.d_row_of_tree.a T.d_row_of_tree.fd P_row_of_tree (sp_row_of_tree T) := by
  refine T.d_row_of_tree.F.ok sc_row_of_tree (fun vs H Q E h => ?_) (fun cdv A outer s H vs Q E hr h => ?_)
  · obtain ⟨_, _, _, rfl, _⟩ := h
    rfl
  · obtain ⟨a, l, kf, rfl, htr, hsz, k⟩ := h
    refine ⟨_, ((pss_cons (ps_set (i := 1) sc_row_of_tree.nd rfl (by first | exact Or.inl rfl | exact Or.inr rfl) (pe_lst pa_nil))
  (pss_cons (ps_set (i := 2) sc_row_of_tree.nd rfl (by first | exact Or.inl rfl | exact Or.inr rfl) (pe_lst pa_nil))
  (pss_cons (ps_for PassesOwn.never rfl (pi_enum rfl T.b_enumerate (pa_cons (pe_meth0 (pv 0) T.Tree.cl T.m_Tree_entries (ok_Tree_entries T) (hr.mono (by decide)) T.d_Tree_entries.b .nil pass0) pa_nil)) (pg_tup (by rfl) (pgs_cons (pg_name (i := 3) sc_row_of_tree.nd rfl (by first | exact Or.inl rfl | exact Or.inr rfl)) (pgs_cons (pg_tup (by rfl) (pgs_cons (pg_name (i := 4) sc_row_of_tree.nd rfl (by first | exact Or.inl rfl | exact Or.inr rfl)) (pgs_cons (pg_name (i := 5) sc_row_of_tree.nd rfl (by first | exact Or.inl rfl | exact Or.inr rfl)) pgs_nil))) pgs_nil))) 
    (pss_cons (ps_while PassesOwn.never (PW.pt (pw_and (pt_cmpR op_gt (pe_callB (r := cLen K) k_len (by rfl) T.b_len (by decide +kernel) (pa_cons (pv 2) pa_nil)) pe_int (nomark _)) (pw_and1 (pt_cmpR op_ne (pe_ix (r := rIxL K) ix_list (pv 2) (pe_un un_neg pe_int) (fun _ _ => rfl)) (pv 4) (nomark _))))) 
      (pss_cons (ps_expr (pe_bm0 PySem.F.plainAttrs_list PySem.F.slot_list_pop PySem.F.type_list_pop mt_pop (pv 2)))
      (pss_one (ps_expr (pe_bm PySem.F.plainAttrs_list PySem.F.slot_list_append PySem.F.type_list_append mt_append (pv 1) (pa_cons pe_int pa_nil))))))
    (pss_cons (ps_expr (pe_bm PySem.F.plainAttrs_list PySem.F.slot_list_append PySem.F.type_list_append mt_append (pv 2) (pa_cons (pv 3) pa_nil)))
    (pss_one (ps_expr (pe_bm PySem.F.plainAttrs_list PySem.F.slot_list_append PySem.F.type_list_append mt_append (pv 1) (pa_cons (pv 5) pa_nil)))))))
  (pss_one (ps_ret (pe_op op_cat (pv 1) (pe_op op_rep (pe_lst (pa_cons pe_int pa_nil)) (pe_callB (r := cLen K) k_len (by rfl) T.b_len (by decide +kernel) (pa_cons (pv 2) pa_nil)))))))))), ?_⟩
    try simp only [nxK, cxK]
    obtain ⟨R, X, hrun, hfin⟩ := trun_all l kf
    have hlen := tabF_len (.cons l kf .nil) (-1) 0
    have hrl := rowF_len (.cons l kf .nil)
    rw [← hlen] at hsz
    have hups := tabF_up (.cons l kf .nil) (-1) 0 (by decide)
    generalize tabF (-1) 0 (.cons l kf .nil) = ps at *
    generalize rowF (.cons l kf .nil) = row at *
    have hinX : ∀ (i : Nat) (s1 : Nat × List Int × List Int), (ps.take i).foldlM tstep (0, [], []) = some s1 → True := fun _ _ _ => trivial
    walk_at "rd"
    intro rl hrl0
    walk_at "rd"
    intro pl hpl
    have npr : pl ≠ rl := ne_fr upd_same hpl
    have frl : H rl = none := hrl0
    have fpl : H pl = none := by walk_at "fr"
    have htr2 := htr.up (H' := upd (upd H rl (HO.lst [])) pl (HO.lst [])) (by walk_at "sm")
    obtain ⟨dx, aa, ma, ba, h1, h2, h3, h4⟩ := id htr2
    walk_at "rd"
    refine ⟨a, ps, rfl, htr2, by omega, fun el H3 s3 hel hel3 => ?_⟩
    obtain ⟨_, us, e0, hes, hus⟩ := dp_list' hel3
    cases e0
    have hul : us.length = ps.length := by rw [dps_len hus, List.length_map]
    have s03 : Same H H3 := by walk_at "sm"
    have nep : el ≠ pl := ne_fr upd_same hel
    have ner : el ≠ rl := ne_fr ((upd_ne npr.symm).trans upd_same) hel
    have fel : H el = none := by walk_at "fr"
    have hr3 : H3 rl = some (.lst []) := s3 _ _ ((upd_ne npr.symm).trans upd_same)
    have hp3 : H3 pl = some (.lst []) := s3 _ _ upd_same
    have gp : nw (upd (upd H rl (HO.lst [])) pl (HO.lst [])) H3 pl = none := by unfold nw; rw [upd_same]; rfl
    have gr : nw (upd (upd H rl (HO.lst [])) pl (HO.lst [])) H3 rl = none := by unfold nw; rw [upd_ne npr.symm, upd_same]; rfl
    have sG : Same (nw (upd (upd H rl (HO.lst [])) pl (HO.lst [])) H3) H3 := nw_le
    generalize nw (upd (upd H rl (HO.lst [])) pl (HO.lst [])) H3 = G at *
    refine ⟨_, _, rfl, sG.seq hes, forJ (walk_enum (xs := us)) ⟨fun i σ H' => ∃ (R X : List Int) (v3 v4 v5 : Option V), σ = [some (.ref a), some (.ref rl), some (.ref pl), v3, v4, v5] ∧ Same H H' ∧ Same G H' ∧
      (ps.take i).foldlM tstep (0, [], []) = some (i, R, X) ∧ H' rl = some (iLs R) ∧ H' pl = some (iLs X.reverse) ∧ R.length ≤ 2 * i ∧ X.length + R.length ≤ 2 * i ∧ (∀ z ∈ X, -1 < z), ?_, fun i σ H' _ h => ?_, ?_, ?_⟩⟩
    · exact ⟨[], [], none, none, none, rfl, s03, sG, rfl, hr3, hp3, Nat.le_refl _, Nat.le_refl _, by simp⟩
    · obtain ⟨_, _, _, _, _, _, _, s, _⟩ := h
      exact s.seq hes
    · rintro i x σ H4 H5 hi ⟨R3, X3, v3, v4, v5, rfl, s4, g4, hst, hr4, hp4, lR, lX, pX⟩ ⟨tp, x1, y1, rfl, htp, rfl, e1, e2⟩
      obtain rfl := Option.some.inj e1
      obtain ⟨d, hd1, hd2⟩ := dps_get' hus e2
      obtain ⟨⟨up, lab⟩, hqi, rfl⟩ := map_get hd1
      obtain ⟨tb, rfl, htb⟩ := dp_tints' (show Dp K G y1 (dTI [up, lab]) from hd2)
      have hin : i < ps.length := (List.getElem?_eq_some_iff.mp hqi).1
      obtain ⟨s1, s2, g1, g2, g3⟩ := runM tstep _ _ _ hrun i (up, lab) hqi
      rw [hst] at g1
      obtain rfl := Option.some.inj g1
      have g6 : Same G (upd H4 tp (HO.tup [V.int (i : Nat), V.ref tb])) := g4.trans (sm_up htp)
      have s6 : Same H (upd H4 tp (HO.tup [V.int (i : Nat), V.ref tb])) := s4.trans (sm_up htp)
      have htp6 : SqT K (upd H4 tp (HO.tup [V.int (i : Nat), V.ref tb])) tp [V.int (i : Nat), V.ref tb] := SqT.of upd_same
      have ntr : tp ≠ rl := ne_fr hr4 htp
      have ntp : tp ≠ pl := ne_fr hp4 htp
      have hr6 : (upd H4 tp (HO.tup [V.int (i : Nat), V.ref tb])) rl = some (iLs R3) := (upd_ne ntr.symm).trans hr4
      have hp6 : (upd H4 tp (HO.tup [V.int (i : Nat), V.ref tb])) pl = some (iLs X3.reverse) := (upd_ne ntp.symm).trans hp4
      generalize upd H4 tp (HO.tup [V.int (i : Nat), V.ref tb]) = H6 at *
      have htb6 : SqT K H6 tb [V.int up, V.int lab] := sm_tp g6 htb
      walk_at "rd"
      cases i with
      | zero =>
        have hc : up = -1 ∧ X3 = [] := Decidable.byContradiction fun q => by
          have : tstep (0, R3, X3) (up, lab) = none := if_neg q
          rw [this] at g2
          cases g2
        obtain ⟨rfl, rfl⟩ := hc
        have e2 : s2 = (1, R3 ++ [lab], [0]) := (Option.some.inj g2).symm
        refine r_while (fun m σ H' => m = 0 ∧ σ = [some (.ref a), some (.ref rl), some (.ref pl), some (.int ((0 : Nat) : Int)), some (.int (-1)), some (.int lab)] ∧ H' = H6) 0 ⟨rfl, rfl, rfl⟩ ?_
        rintro m σ H7 ⟨rfl, rfl, rfl⟩
        have hp7 : H7 pl = some (.lst []) := hp6
        unfold iLs at hr6
        have lR2 : R3.length ≤ 1000 := by omega
        walk_at "rd"
        refine iteF ?_
        refine iteF ?_
        walk_at "rd"
        refine ⟨R3 ++ [lab], [0], _, _, _, rfl, sm_mut (sm_mut s6 fpl) frl, sm_mut (sm_mut g6 gp) gr, by rw [g3, e2], ?_, ?_, by simp; omega, by simp; omega, by simp⟩
        · rw [upd_same, iLs, List.map_append]
          rfl
        · rw [upd_ne npr, upd_same]
          rfl
      | succ i =>
        rw [tstep_succ] at g2
        have hh : (X3.dropWhile (gtB up)).head? = some up := Decidable.byContradiction fun q => by
          rw [if_neg q] at g2
          cases g2
        rw [if_pos hh] at g2
        have e2 := (Option.some.inj g2).symm
        obtain ⟨r, hr⟩ : ∃ r, X3.dropWhile (gtB up) = up :: r := by
          cases hd : X3.dropWhile (gtB up) with
          | nil =>
            rw [hd] at hh
            cases hh
          | cons y r =>
            rw [hd] at hh
            obtain rfl := Option.some.inj hh
            exact ⟨r, rfl⟩
        have eX : X3 = X3.takeWhile (gtB up) ++ up :: r := by rw [← hr]; exact (List.takeWhile_append_dropWhile).symm
        have hY : ∀ y ∈ X3.takeWhile (gtB up), up < y := fun y hy => by
          have h := List.all_takeWhile (p := gtB up) (l := X3)
          exact of_decide_eq_true (List.all_eq_true.mp h y hy)
        rw [hr] at e2
        generalize X3.takeWhile (gtB up) = Y at *
        rw [eX] at hp6 lX pX
        refine r_while (fun m σ H' => ∃ (Y2 : List Int) (n : Nat), m = Y2.length ∧ σ = [some (.ref a), some (.ref rl), some (.ref pl), some (.int ((i + 1 : Nat) : Int)), some (.int up), some (.int lab)] ∧ Same H H' ∧ Same G H' ∧ H' rl = some (iLs (R3 ++ zs n)) ∧ H' pl = some (iLs (Y2 ++ up :: r).reverse) ∧ n + Y2.length = Y.length ∧ ∀ y ∈ Y2, up < y) Y.length
          ⟨Y, 0, rfl, rfl, s6, g6, by rw [hr6]; simp [zs], hp6, by omega, hY⟩ ?_
        rintro m σ H7 ⟨Y2, n, rfl, rfl, s7, g7, hr7, hp7, hn, hY2⟩
        simp only [List.length_append, List.length_cons] at lX
        have lR2 : R3.length + (zs n).length ≤ 10000 := by
          rw [zs_len]
          omega
        unfold iLs at hr7 hp7
        cases Y2 with
        | nil =>
          rw [List.nil_append, List.reverse_cons, List.map_append] at hp7
          have lr : r.length ≤ 10000 := by omega
          walk_at "rd"
          refine ifd (fun _ => ?_) (fun e => absurd (show (0 : Int) < _ from by rw [List.length_append, List.length_map]; simp <;> omega) e)
          walk_at "rd"
          refine ifnd (fun e => absurd rfl e) (fun _ => ?_)
          walk_at "rd"
          have en : n = Y.length := by simpa using hn
          subst en
          refine ⟨R3 ++ zs Y.length ++ [lab], ((i + 1 : Nat) : Int) :: up :: r, _, _, _, rfl, sm_mut (sm_mut s7 fpl) frl, sm_mut (sm_mut g7 gp) gr, by rw [g3, e2], ?_, ?_, ?_, ?_, ?_⟩
          · rw [upd_same, iLs]
            simp
          · rw [upd_ne npr, upd_same, iLs, List.reverse_cons, List.reverse_cons, List.map_append, List.map_append]
            rfl
          · simp [zs_len]
            omega
          · simp [zs_len]
            omega
          · intro z hz
            rcases List.mem_cons.mp hz with e | e
            · omega
            · exact pX z (List.mem_append_right _ e)
        | cons y r2 =>
          rw [List.cons_append, List.reverse_cons, List.map_append] at hp7
          have hyu := hY2 y (List.mem_cons_self ..)
          walk_at "rd"
          refine ifd (fun _ => ?_) (fun e => absurd (show (0 : Int) < _ from by rw [List.length_append, List.length_map]; simp <;> omega) e)
          walk_at "rd"
          refine ifnd (fun _ => ?_) (fun e => absurd e (by omega))
          refine wh ?_
          walk_at "rd"
          refine r_pop (xs := ((r2 ++ up :: r).reverse).map V.int) (y := .int y) hp7 ?_
          walk_at "rd"
          refine ⟨r2.length, by simp, r2, n + 1, rfl, rfl, sm_mut (sm_mut s7 fpl) frl, sm_mut (sm_mut g7 gp) gr, ?_, ?_, by simp at hn; omega, fun z hz => hY2 z (List.mem_cons_of_mem _ hz)⟩
          · rw [upd_same, iLs, zs_snoc]
            simp
          · rw [upd_ne npr, upd_same]
            rfl
    · rintro σ H4 ⟨R3, X3, v3, v4, v5, rfl, s4, g4, hst, hr4, hp4, lR, lX, pX⟩
      rw [hul, List.take_length, hrun] at hst
      obtain ⟨e1, e2⟩ := Prod.mk.inj (Option.some.inj hst)
      obtain ⟨rfl, rfl⟩ := Prod.mk.inj e2
      unfold iLs at hr4 hp4
      have lXs : X.length ≤ 1000 := by omega
      walk_at "rd"
      intro q1 hq1
      have n1 : q1 ≠ rl := ne_fr hr4 hq1
      have n1p : q1 ≠ pl := ne_fr hp4 hq1
      walk_at "rd"
      intro q2 hq2
      have n2 : q2 ≠ rl := ne_fr ((upd_ne n1.symm).trans hr4) hq2
      walk_at "rd"
      intro q3 hq3
      refine k q3 _ (by walk_at "sm") (s4.free (by walk_at "fr")) ?_
      rw [upd_same, ← hfin, iLs, List.map_append]
      simp [zs]
end

/-! ### the web: parts, node counts, tree counts, names by parts -/
structure WA where
  pa : Addr
  na : Addr
  ta : Addr
  da : Addr
abbrev Ent := Int × Nat × Nat
def keyT (e : Ent) : List Key := [Sum.inl e.1, Sum.inl (e.2.1 : Int), Sum.inl (e.2.2 : Int)]
def kvW (s : Nat) : List Ent → List (List Key × V)
  | [] => []
  | e :: r => (keyT e, .int ((s + 1 : Nat) : Int)) :: kvW (s + 1) r
abbrev fldW (m : WA) : List (Str × V) := [("kept_parts", .ref m.pa), ("kept_nodes", .ref m.na), ("kept_trees", .ref m.ta), ("names_by_parts", .ref m.da)]
def entV (e : Ent) : List V := [.int e.1, .int (e.2.1 : Int), .int (e.2.2 : Int)]
def PtL (H : Hp) (vs : List V) (es : List Ent) : Prop := vs.length = es.length ∧ ∀ (i : Nat) (v : V) (e : Ent), vs[i]? = some v → es[i]? = some e → ∃ b, v = .ref b ∧ H b = some (.tup (entV e))
def szL (fs : List Fo) : List Int := fs.map fun f => (szF f : Int)
def rlL (fs : List Fo) : List Int := fs.map fun f => ((rlF f).length : Int)
structure WfW (es : List Ent) (fs : List Fo) : Prop where
  len : fs.length = es.length + 1
  h0 : fs[0]? = some .nil
  hs : ∀ (i : Nat) (l : Int) (k r : Nat), es[i]? = some (l, k, r) → (1 ≤ l ∧ l ≤ 9) ∧ k ≤ i ∧ r ≤ i ∧ ∃ fk fr, fs[k]? = some fk ∧ fs[r]? = some fr ∧ fs[i + 1]? = some (.cons l fk fr)
structure WNe (m : WA) : Prop where
  e1 : m.pa ≠ m.na
  e2 : m.pa ≠ m.ta
  e3 : m.pa ≠ m.da
  e4 : m.na ≠ m.ta
  e5 : m.na ≠ m.da
  e6 : m.ta ≠ m.da
theorem keyT_inj {a b : Ent} (h : keyT a = keyT b) : a = b := by
  obtain ⟨a1, a2, a3⟩ := a
  obtain ⟨b1, b2, b3⟩ := b
  unfold keyT at h
  simp only [List.cons.injEq, Sum.inl.injEq, and_true] at h
  obtain ⟨h1, h2, h3⟩ := h
  have h2 : (a2 : Int) = (b2 : Int) := h2
  have h3 : (a3 : Int) = (b3 : Int) := h3
  have h1 : a1 = b1 := h1
  rw [h1, show a2 = b2 from by omega, show a3 = b3 from by omega]
theorem keyT_kV (e : Ent) : (keyT e).map kV = entV e := rfl
theorem kvW_snoc (e : Ent) : ∀ (es : List Ent) (s : Nat), kvW s (es ++ [e]) = kvW s es ++ [(keyT e, .int ((s + es.length + 1 : Nat) : Int))]
  | [], s => rfl
  | x :: r, s => by
    simp only [List.cons_append, kvW, kvW_snoc e r (s + 1), List.length_cons]
    congr 5
    omega
theorem kvW_len : ∀ (es : List Ent) (s : Nat), (kvW s es).length = es.length
  | [], s => rfl
  | x :: r, s => by simp only [kvW, List.length_cons, kvW_len r]
theorem kvW_val (e : Ent) : ∀ (es : List Ent) (s : Nat), (e ∉ es ∧ valV (kvW s es) (keyT e) = none) ∨ ∃ i, es[i]? = some e ∧ valV (kvW s es) (keyT e) = some (.int ((s + i + 1 : Nat) : Int))
  | [], s => .inl ⟨by simp, rfl⟩
  | x :: r, s => by
    by_cases h : x = e
    · subst h
      exact .inr ⟨0, rfl, valV_pos rfl⟩
    · have hk : ¬ keyT x = keyT e := fun q => h (keyT_inj q)
      have e1 : valV (kvW s (x :: r)) (keyT e) = valV (kvW (s + 1) r) (keyT e) := valV_neg hk
      rcases kvW_val e r (s + 1) with ⟨h1, h2⟩ | ⟨i, h1, h2⟩
      · exact .inl ⟨by simp [h1, Ne.symm h], by rw [e1, h2]⟩
      · exact .inr ⟨i + 1, h1, by rw [e1, h2]; congr 2; omega⟩
theorem szL_at {fs : List Fo} {n : Nat} {f : Fo} (h : fs[n]? = some f) : (szL fs)[n]? = some (szF f : Int) := by unfold szL; rw [List.getElem?_map, h]; rfl
theorem rlL_at {fs : List Fo} {n : Nat} {f : Fo} (h : fs[n]? = some f) : (rlL fs)[n]? = some ((rlF f).length : Int) := by unfold rlL; rw [List.getElem?_map, h]; rfl
section
variable {P : Program} {w : World} {K : PySem.W.Frag} {mg : Str → Option Value} {base : Heap}
def WebAt (T : Tx K mg) (H : Hp) (a : Addr) (m : WA) (es : List Ent) (fs : List Fo) : Prop := ∃ dx vs, H a = some (.ins T.Web.C dx (fldW m)) ∧ H m.pa = some (.lst (.non :: vs)) ∧ PtL H vs es ∧ H m.na = some (iLs (szL fs)) ∧ H m.ta = some (iLs (rlL fs)) ∧ H m.da = some (.dT (kvW 0 es)) ∧ WNe m ∧ WfW es fs
theorem PtL.up {H H' : Hp} {vs : List V} {es : List Ent} (h : PtL H vs es) (s : Same H H') : PtL H' vs es := ⟨h.1, fun i v e h1 h2 => let ⟨b, e1, e2⟩ := h.2 i v e h1 h2; ⟨b, e1, s _ _ e2⟩⟩
theorem WebAt.up {T : Tx K mg} {H H' : Hp} {a : Addr} {m : WA} {es : List Ent} {fs : List Fo} (h : WebAt T H a m es fs) (s : Same H H') : WebAt T H' a m es fs :=
  let ⟨dx, vs, h1, h2, h3, h4, h5, h6, h7, h8⟩ := h
  ⟨dx, vs, s _ _ h1, s _ _ h2, h3.up s, s _ _ h4, s _ _ h5, s _ _ h6, h7, h8⟩
theorem WebAt.wo {T : Tx K mg} {H : Hp} {a p : Addr} {m : WA} {es : List Ent} {fs : List Fo} {ns : List Int} (h : WebAt T H a m es fs) (hp : H p = some (iLs ns)) (n1 : m.na ≠ p) (n2 : m.ta ≠ p) : WebAt T (PT.wo H p) a m es fs := by
  obtain ⟨dx, vs, h1, h2, h3, h4, h5, h6, h7, h8⟩ := h
  have q1 : a ≠ p := fun e => by
    rw [e, hp] at h1
    cases h1
  have q2 : m.pa ≠ p := fun e => by
    rw [e, hp] at h2
    injection h2 with h2
    injection h2 with h2
    cases ns with
    | nil => cases h2
    | cons n r => cases h2
  have q3 : m.da ≠ p := fun e => by
    rw [e, hp] at h6
    cases h6
  refine ⟨dx, vs, (wo_ne q1).trans h1, (wo_ne q2).trans h2, ⟨h3.1, fun i v e e1 e2 => ?_⟩, (wo_ne n1).trans h4, (wo_ne n2).trans h5, (wo_ne q3).trans h6, h7, h8⟩
  obtain ⟨b, g1, g2⟩ := h3.2 i v e e1 e2
  refine ⟨b, g1, (wo_ne fun z => ?_).trans g2⟩
  rw [z, hp] at g2
  cases g2
theorem WebAt.but {T : Tx K mg} {H H' : Hp} {a p : Addr} {m : WA} {es : List Ent} {fs : List Fo} {ns : List Int} (h : WebAt T H a m es fs) (hp : H p = some (iLs ns)) (n1 : m.na ≠ p) (n2 : m.ta ≠ p) (b : But p H H') : WebAt T H' a m es fs :=
  (h.wo hp n1 n2).up (b.wo.trans sm_wo)
/-- all but the web's own four is as it was -/
def ButW (m : WA) (H H' : Hp) : Prop := ∀ b o, b ≠ m.pa → b ≠ m.na → b ≠ m.ta → b ≠ m.da → H b = some o → H' b = some o
structure OffW (G : Hp) (m : WA) : Prop where
  o1 : G m.pa = none
  o2 : G m.na = none
  o3 : G m.ta = none
  o4 : G m.da = none
theorem sm_butW {G H H' : Hp} {m : WA} (s : Same G H) (o : OffW G m) (b : ButW m H H') : Same G H' := fun q u e => b q u (ne_of_none e o.o1) (ne_of_none e o.o2) (ne_of_none e o.o3) (ne_of_none e o.o4) (s q u e)
theorem ButW.refl {m : WA} (H : Hp) : ButW m H H := fun _ _ _ _ _ _ e => e
theorem ButW.trans {m : WA} {H H1 H2 : Hp} (a : ButW m H H1) (b : ButW m H1 H2) : ButW m H H2 := fun q u h1 h2 h3 h4 e => b q u h1 h2 h3 h4 (a q u h1 h2 h3 h4 e)
theorem ButW.same {m : WA} {H H1 : Hp} (s : Same H H1) : ButW m H H1 := fun q u _ _ _ _ e => s q u e
def sp_Webinit (T : Tx K mg) : Sp := fun vs H Q _ => ∃ (x dx : Addr), vs = [.ref x] ∧ H x = some (.ins T.Web.C dx []) ∧ ∀ (m : WA) (H' : Hp), But x H H' → OffW H m → WebAt T H' x m [] [.nil] → Q .non H'
theorem ok_Webinit (T : Tx K mg) : FnOk P w K mg base CX0 1 T.d_Webinit.a T.d_Webinit.fd P_Webinit (sp_Webinit T) := by
  refine T.d_Webinit.F.ok sc_Webinit (fun vs H Q E h => ?_) (fun cdv A outer s H vs Q E hr h => ?_)
  · obtain ⟨_, _, rfl, _⟩ := h
    rfl
  · obtain ⟨x, dx, rfl, hx, k⟩ := h
    refine ⟨_, ((pss_cons (ps_fld (pv 0) (pe_lst (pa_cons pe_non pa_nil)) rfl)
  (pss_cons (ps_fld (pv 0) (pe_lst (pa_cons pe_int pa_nil)) rfl)
  (pss_cons (ps_fld (pv 0) (pe_lst (pa_cons pe_int pa_nil)) rfl)
  (pss_one (ps_fld (pv 0) pe_dnewT rfl)))))), ?_⟩
    try simp only [nxK, cxK]
    have cT := T.Web.cl
    have n1 := T.n_Web_kept_parts
    have n2 := T.n_Web_kept_nodes
    have n3 := T.n_Web_kept_trees
    have n4 := T.n_Web_names_by_parts
    walk_at "rd"
    intro pa hpa
    have q1 : pa ≠ x := ne_fr hx hpa
    walk_at "rd"
    intro na hna
    have q2 : na ≠ x := ne_fr upd_same hna
    have q3 : na ≠ pa := ne_fr ((upd_ne q1).trans upd_same) hna
    walk_at "rd"
    intro ta hta
    have q4 : ta ≠ x := ne_fr upd_same hta
    have q5 : ta ≠ na := ne_fr ((upd_ne q2).trans upd_same) hta
    have q6 : ta ≠ pa := ne_fr ((upd_ne q1).trans ((upd_ne q3.symm).trans ((upd_ne q1).trans upd_same))) hta
    walk_at "rd"
    intro da hda
    have q7 : da ≠ x := ne_fr upd_same hda
    have q8 : da ≠ ta := ne_fr ((upd_ne q4).trans upd_same) hda
    have q9 : da ≠ na := ne_fr ((upd_ne q2).trans ((upd_ne q5.symm).trans ((upd_ne q2).trans upd_same))) hda
    have q10 : da ≠ pa := ne_fr ((upd_ne q1).trans ((upd_ne q6.symm).trans ((upd_ne q1).trans ((upd_ne q3.symm).trans ((upd_ne q1).trans upd_same))))) hda
    walk_at "rd"
    have f1 : H pa = none := hpa
    have f2 : H na = none := by rw [upd_ne q2, upd_ne q3] at hna; exact hna
    have f3 : H ta = none := by rw [upd_ne q4, upd_ne q5, upd_ne q4, upd_ne q6] at hta; exact hta
    have f4 : H da = none := by rw [upd_ne q7, upd_ne q8, upd_ne q7, upd_ne q9, upd_ne q7, upd_ne q10] at hda; exact hda
    refine k ⟨pa, na, ta, da⟩ _ ?_ ⟨f1, f2, f3, f4⟩ ⟨dx, [], upd_same, ?_, ⟨rfl, fun i v e h => by simp at h⟩, ?_, ?_, ?_, ⟨q3.symm, q6.symm, q10.symm, q5.symm, q9.symm, q8.symm⟩, ⟨rfl, rfl, fun i l k r h => by simp at h⟩⟩
    · intro b o ne e
      rw [upd_ne ne, upd_ne (ne_of_none e f4), upd_ne ne, upd_ne (ne_of_none e f3), upd_ne ne, upd_ne (ne_of_none e f2), upd_ne ne, upd_ne (ne_of_none e f1)]
      exact e
    · rw [upd_ne q1, upd_ne q10.symm, upd_ne q1, upd_ne q6.symm, upd_ne q1, upd_ne q3.symm, upd_ne q1, upd_same]
    · rw [upd_ne q2, upd_ne q9.symm, upd_ne q2, upd_ne q5.symm, upd_ne q2, upd_same]
      rfl
    · rw [upd_ne q4, upd_ne q8.symm, upd_ne q4, upd_same]
      rfl
    · rw [upd_ne q7, upd_same]
      rfl
end

section
variable {P : Program} {w : World} {K : PySem.W.Frag} {mg : Str → Option Value} {base : Heap}
/-- a name that is not there -/
def NoNm (O : Ox K mg) (H : Hp) (n : Int) (E : XK) : Prop := ∀ (d : Addr) (H' : Hp), Same H H' → H d = none → H' d = some (.xd [("missing", .int n)]) → E (.ref O.nnC) (some d) H'
def sp_cf (T : Tx K mg) (O : Ox K mg) : Sp := fun vs H Q E => ∃ (a : Addr) (m : WA) (es : List Ent) (fs : List Fo) (n : Int), vs = [.ref a, .int n] ∧ WebAt T H a m es fs ∧ ((0 ≤ n ∧ n < fs.length ∧ Q (.int n) H) ∨ (¬ (0 ≤ n ∧ n < fs.length) ∧ NoNm O H n E))
theorem ok_Web_checked_forest (T : Tx K mg) (O : Ox K mg) : FnOk P w K mg base (L2.CX P w) 3 T.d_Web_checked_forest.a T.d_Web_checked_forest.fd P_Web_checked_forest (sp_cf T O) := by
  refine T.d_Web_checked_forest.F.okX sc_Web_checked_forest (fun vs H Q E h => ?_) (fun cdv A outer s H vs Q E hr h => ?_)
  · obtain ⟨_, _, _, _, _, rfl, _⟩ := h
    rfl
  · obtain ⟨a, m, es, fs, n, rfl, ⟨dx, us, h1, h2, h3, h4, h5, h6, h7, h8⟩, k⟩ := h
    refine ⟨_, ((pss_cons (ps_if (pt_not (pt_chain op_le op_lt pe_int (pv 1) (pe_callB (r := cLen K) k_len (by rfl) T.b_len (by decide +kernel) (pa_cons (pe_fld (pv 0) rfl) pa_nil)))) 
    (pss_one (ps_raise rfl (takes_of rfl rfl rfl rfl) (pmk_oex O.nnO O.nnI O.nnT (ok_NoNameinit O) (hr.mono (by decide)) O.d_nn.b .nil pass0 rfl O.nnG (pa_cons (pv 1) pa_nil)))) pss_nil)
  (pss_one (ps_ret (pv 1))))), ?_⟩
    try simp only [nxK, cxK]
    have cT := T.Web.cl
    have n1 := T.n_Web_kept_parts
    have hl : (V.non :: us).length = fs.length := by rw [List.length_cons, h3.1, h8.len]
    have hraise : NoNm O H n E → tMkO O.nnC (sp_NoNameinit O) [] (tCons (tVar 1) tNil) (start N_Web_checked_forest [.ref a, .int n]) H fun cls d H' => E cls d H' := fun hn => by
      show tCons (tVar 1) tNil (start N_Web_checked_forest [.ref a, .int n]) H _
      walk_at "rd"
      refine ⟨by simp, fun q hq => ⟨q, .int n, rfl, upd_same, fun ex hex ne => ⟨rfl, ex, [("missing", .int n)], upd_same, (upd_ne ne).trans upd_same, ?_, ?_⟩⟩⟩
      · rw [upd_ne ne] at hex
        exact hex
      · have hex2 : H ex = none := by
          rw [upd_ne ne] at hex
          exact hex
        refine hn ex _ (fun b o e => ?_) hex2 upd_same
        have nb1 : b ≠ ex := ne_of_none e hex2
        have nb2 : b ≠ q := ne_of_none e hq
        rw [upd_ne nb1, del_ne nb2, upd_ne nb2, upd_ne nb1, upd_ne nb2]
        exact e
    walk_at "rd"
    rcases k with ⟨k0, k1, k⟩ | ⟨hno, hn⟩
    · refine ifd (fun _ => ?_) (fun e => absurd k0 e)
      walk_at "rd"
      rw [hl]
      refine ifnd (fun e => absurd k1 e) (fun _ => ?_)
      walk_at "rd"
      exact k
    · refine ifd (fun e0 => ?_) (fun e => ?_)
      · walk_at "rd"
        rw [hl]
        refine ifnd (fun e => ?_) (fun e => absurd ⟨e0, e⟩ hno)
        exact hraise hn
      · walk_at "rd"
        refine iteT ?_
        exact hraise hn
/-- a lookup by a name that is there -/
def sp_cnt (T : Tx K mg) (O : Ox K mg) (F : Fo → Int) : Sp := fun vs H Q E => ∃ (a : Addr) (m : WA) (es : List Ent) (fs : List Fo) (n : Int), vs = [.ref a, .int n] ∧ WebAt T H a m es fs ∧ ((∃ (j : Nat) (f : Fo), n = (j : Int) ∧ fs[j]? = some f ∧ Q (.int (F f)) H) ∨ (¬ (0 ≤ n ∧ n < fs.length) ∧ NoNm O H n E))
theorem ok_Web_node_count (T : Tx K mg) (O : Ox K mg) : FnOk P w K mg base (L2.CX P w) 4 T.d_Web_node_count.a T.d_Web_node_count.fd P_Web_node_count (sp_cnt T O fun f => (szF f : Int)) := by
  refine T.d_Web_node_count.F.okX sc_Web_node_count (fun vs H Q E h => ?_) (fun cdv A outer s H vs Q E hr h => ?_)
  · obtain ⟨_, _, _, _, _, rfl, _⟩ := h
    rfl
  · obtain ⟨a, m, es, fs, n, rfl, hw, k⟩ := h
    refine ⟨_, ((pss_one (ps_ret (pe_ix (r := rIxL K) ix_list (pe_fld (pv 0) rfl) (pe_meth (pv 0) T.Web.cl T.m_Web_checked_forest (ok_Web_checked_forest T O) (hr.mono (by decide)) T.d_Web_checked_forest.b .nil (passes_call (takes_of rfl rfl rfl rfl) fun _ _ _ _ h => h) (pa_cons (pv 1) pa_nil)) (fun _ _ => rfl))))), ?_⟩
    try simp only [nxK, cxK]
    obtain ⟨dx, us, h1, h2, h3, h4, h5, h6, h7, h8⟩ := id hw
    have cT := T.Web.cl
    have n1 := T.n_Web_kept_nodes
    walk_at "rd"
    refine ⟨a, m, es, fs, n, rfl, hw, ?_⟩
    rcases k with ⟨j, f, rfl, hf, k⟩ | ⟨hno, hn⟩
    · have hj := (List.getElem?_eq_some_iff.mp hf).1
      refine .inl ⟨by omega, by omega, ?_⟩
      walk_at "rd"
      refine r_ixI (ns := szL fs) (SqL.of h4) (by omega) (by unfold szL; rw [List.length_map]; omega) fun x hx => ?_
      rw [Int.toNat_natCast, szL_at hf] at hx
      obtain rfl := Option.some.inj hx
      exact k
    · exact .inr ⟨hno, hn⟩
theorem ok_Web_tree_count (T : Tx K mg) (O : Ox K mg) : FnOk P w K mg base (L2.CX P w) 4 T.d_Web_tree_count.a T.d_Web_tree_count.fd P_Web_tree_count (sp_cnt T O fun f => ((rlF f).length : Int)) := by
  refine T.d_Web_tree_count.F.okX sc_Web_tree_count (fun vs H Q E h => ?_) (fun cdv A outer s H vs Q E hr h => ?_)
  · obtain ⟨_, _, _, _, _, rfl, _⟩ := h
    rfl
  · obtain ⟨a, m, es, fs, n, rfl, hw, k⟩ := h
    refine ⟨_, ((pss_one (ps_ret (pe_ix (r := rIxL K) ix_list (pe_fld (pv 0) rfl) (pe_meth (pv 0) T.Web.cl T.m_Web_checked_forest (ok_Web_checked_forest T O) (hr.mono (by decide)) T.d_Web_checked_forest.b .nil (passes_call (takes_of rfl rfl rfl rfl) fun _ _ _ _ h => h) (pa_cons (pv 1) pa_nil)) (fun _ _ => rfl))))), ?_⟩
    try simp only [nxK, cxK]
    obtain ⟨dx, us, h1, h2, h3, h4, h5, h6, h7, h8⟩ := id hw
    have cT := T.Web.cl
    have n1 := T.n_Web_kept_trees
    walk_at "rd"
    refine ⟨a, m, es, fs, n, rfl, hw, ?_⟩
    rcases k with ⟨j, f, rfl, hf, k⟩ | ⟨hno, hn⟩
    · have hj := (List.getElem?_eq_some_iff.mp hf).1
      refine .inl ⟨by omega, by omega, ?_⟩
      walk_at "rd"
      refine r_ixI (ns := rlL fs) (SqL.of h5) (by omega) (by unfold rlL; rw [List.length_map]; omega) fun x hx => ?_
      rw [Int.toNat_natCast, rlL_at hf] at hx
      obtain rfl := Option.some.inj hx
      exact k
    · exact .inr ⟨hno, hn⟩
/-- the parts by a name that is there: none, or the triple -/
def sp_parts (T : Tx K mg) (O : Ox K mg) : Sp := fun vs H Q E => ∃ (a : Addr) (m : WA) (es : List Ent) (fs : List Fo) (j : Nat), vs = [.ref a, .int (j : Int)] ∧ WebAt T H a m es fs ∧ j < fs.length ∧ (j = 0 → Q .non H) ∧ ∀ (i : Nat) (e : Ent) (b : Addr), j = i + 1 → es[i]? = some e → H b = some (.tup (entV e)) → Q (.ref b) H
theorem ok_Web_parts_of (T : Tx K mg) (O : Ox K mg) : FnOk P w K mg base (L2.CX P w) 4 T.d_Web_parts_of.a T.d_Web_parts_of.fd P_Web_parts_of (sp_parts T O) := by
  refine T.d_Web_parts_of.F.okX sc_Web_parts_of (fun vs H Q E h => ?_) (fun cdv A outer s H vs Q E hr h => ?_)
  · obtain ⟨_, _, _, _, _, rfl, _⟩ := h
    rfl
  · obtain ⟨a, m, es, fs, j, rfl, hw, hj, k0, k1⟩ := h
    refine ⟨_, ((pss_one (ps_ret (pe_ix (r := rIxL K) ix_list (pe_fld (pv 0) rfl) (pe_meth (pv 0) T.Web.cl T.m_Web_checked_forest (ok_Web_checked_forest T O) (hr.mono (by decide)) T.d_Web_checked_forest.b .nil (passes_call (takes_of rfl rfl rfl rfl) fun _ _ _ _ h => h) (pa_cons (pv 1) pa_nil)) (fun _ _ => rfl))))), ?_⟩
    try simp only [nxK, cxK]
    obtain ⟨dx, us, h1, h2, h3, h4, h5, h6, h7, h8⟩ := id hw
    have cT := T.Web.cl
    have n1 := T.n_Web_kept_parts
    have hl := h8.len
    walk_at "rd"
    refine ⟨a, m, es, fs, (j : Int), rfl, hw, .inl ⟨by omega, by omega, ?_⟩⟩
    walk_at "rd"
    refine r_ix (SqL.of h2) (by omega) (by rw [List.length_cons, h3.1]; omega) fun x hx => ?_
    rw [Int.toNat_natCast] at hx
    cases j with
    | zero =>
      obtain rfl : V.non = x := by simpa using hx
      exact k0 rfl
    | succ i =>
      have hx2 : us[i]? = some x := by simpa using hx
      have hi : i < es.length := by omega
      obtain ⟨b, rfl, hb⟩ := h3.2 i x es[i] hx2 (List.getElem?_eq_getElem hi)
      exact k1 i es[i] b rfl (List.getElem?_eq_getElem hi) hb
end

theorem WfW.lt {es : List Ent} {fs : List Fo} (h : WfW es fs) {n : Nat} {f : Fo} (e : fs[n]? = some f) : n ≤ es.length := by
  have := (List.getElem?_eq_some_iff.mp e).1
  have := h.len
  omega
theorem WfW.snoc {es : List Ent} {fs : List Fo} (h : WfW es fs) {l : Int} {k r : Nat} {fk fr : Fo} (hl : 1 ≤ l ∧ l ≤ 9) (hk : fs[k]? = some fk) (hr : fs[r]? = some fr) : WfW (es ++ [(l, k, r)]) (fs ++ [.cons l fk fr]) := by
  have ap : ∀ {n : Nat} {f : Fo}, fs[n]? = some f → (fs ++ [.cons l fk fr])[n]? = some f := fun {n f} e => by
    rw [List.getElem?_append_left (List.getElem?_eq_some_iff.mp e).1]
    exact e
  refine ⟨by rw [List.length_append, List.length_append, h.len]; rfl, ap h.h0, fun i l' k' r' e => ?_⟩
  rw [List.getElem?_append] at e
  by_cases hi : i < es.length
  · rw [if_pos hi] at e
    obtain ⟨g1, g2, g3, fk', fr', g4, g5, g6⟩ := h.hs i l' k' r' e
    exact ⟨g1, g2, g3, fk', fr', ap g4, ap g5, ap g6⟩
  · rw [if_neg hi] at e
    have hi2 : i = es.length := by
      cases e3 : i - es.length with
      | zero => omega
      | succ n =>
        rw [e3] at e
        simp at e
    subst hi2
    rw [Nat.sub_self] at e
    have e4 : (l, k, r) = (l', k', r') := by simpa using e
    cases e4
    refine ⟨hl, h.lt hk, h.lt hr, fk, fr, ap hk, ap hr, ?_⟩
    rw [← h.len, List.getElem?_append_right (Nat.le_refl _), Nat.sub_self]
    rfl
section
variable {P : Program} {w : World} {K : PySem.W.Frag} {mg : Str → Option Value} {base : Heap}
def sp_forest (T : Tx K mg) : Sp := fun vs H Q _ => ∃ (a : Addr) (m : WA) (es : List Ent) (fs : List Fo) (l : Int) (k r : Nat) (fk fr : Fo), vs = [.ref a, .int l, .int (k : Int), .int (r : Int)] ∧ WebAt T H a m es fs ∧ (1 ≤ l ∧ l ≤ 9) ∧ fs[k]? = some fk ∧ fs[r]? = some fr ∧ szF (.cons l fk fr) ≤ 2 ^ 59 ∧ es.length ≤ 50000 ∧
  ∀ (n : Nat) (es' : List Ent) (fs' : List Fo) (H' : Hp), ButW m H H' → WebAt T H' a m es' fs' → (∃ more, fs' = fs ++ more) → fs'[n]? = some (.cons l fk fr) → es'.length ≤ es.length + 1 → Q (.int (n : Int)) H'
theorem ok_Web_forest (T : Tx K mg) (O : Ox K mg) : FnOk P w K mg base CX0 5 T.d_Web_forest.a T.d_Web_forest.fd P_Web_forest (sp_forest T) := by
  refine T.d_Web_forest.F.ok sc_Web_forest (fun vs H Q E h => ?_) (fun cdv A outer s H vs Q E hr h => ?_)
  · obtain ⟨_, _, _, _, _, _, _, _, _, rfl, _⟩ := h
    rfl
  · obtain ⟨a, m, es, fs, l, k, r, fk, fr, rfl, hw, hl, hk, hr2, hsz, hes, kk⟩ := h
    refine ⟨_, ((pss_cons (ps_if (pt_not (pt_chain op_le op_le pe_int (pv 1) pe_int)) 
    (pss_one ps_never) pss_nil)
  (pss_cons (ps_set (i := 4) sc_Web_forest.nd rfl (by first | exact Or.inl rfl | exact Or.inr rfl) (pe_op op_add (pe_op op_add pe_int (pe_meth (pv 0) T.Web.cl T.m_Web_node_count (ok_Web_node_count T O) (hr.mono (by decide)) T.d_Web_node_count.b .nil passL (pa_cons (pv 2) pa_nil))) (pe_meth (pv 0) T.Web.cl T.m_Web_node_count (ok_Web_node_count T O) (hr.mono (by decide)) T.d_Web_node_count.b .nil passL (pa_cons (pv 3) pa_nil))))
  (pss_cons (ps_if (pt_cmpR op_gt (pv 4) (pe_glob (v := .int (2 ^ 59)) rfl T.c_MOST_NODES ⟨_, rfl⟩) (nomark _)) 
    (pss_one ps_never) pss_nil)
  (pss_cons (ps_set (i := 5) sc_Web_forest.nd rfl (by first | exact Or.inl rfl | exact Or.inr rfl) (pe_tup (pa_cons (pv 1) (pa_cons (pv 2) (pa_cons (pv 3) pa_nil)))))
  (pss_cons (ps_if (pt_cmp (pc_dnotin (hu_of hr) (pv 5) (pe_fld (pv 0) rfl))) 
    (pss_cons (ps_dput (hu_of hr) (pe_fld (pv 0) rfl) (pv 5) (pe_callB (r := cLen K) k_len (by rfl) T.b_len (by decide +kernel) (pa_cons (pe_fld (pv 0) rfl) pa_nil)) rfl)
    (pss_cons (ps_expr (pe_bm PySem.F.plainAttrs_list PySem.F.slot_list_append PySem.F.type_list_append mt_append (pe_fld (pv 0) rfl) (pa_cons (pv 5) pa_nil)))
    (pss_cons (ps_expr (pe_bm PySem.F.plainAttrs_list PySem.F.slot_list_append PySem.F.type_list_append mt_append (pe_fld (pv 0) rfl) (pa_cons (pv 4) pa_nil)))
    (pss_one (ps_expr (pe_bm PySem.F.plainAttrs_list PySem.F.slot_list_append PySem.F.type_list_append mt_append (pe_fld (pv 0) rfl) (pa_cons (pe_op op_add pe_int (pe_ix (r := rIxL K) ix_list (pe_fld (pv 0) rfl) (pv 3) (fun _ _ => rfl))) pa_nil))))))) pss_nil)
  (pss_one (ps_ret (pe_dget (hu_of hr) (pe_fld (pv 0) rfl) (pv 5) (fun _ _ => rfl)))))))))), ?_⟩
    try simp only [nxK, cxK]
    obtain ⟨dx, us, h1, h2, h3, h4, h5, h6, h7, h8⟩ := id hw
    have cT := T.Web.cl
    have n1 := T.n_Web_kept_parts
    have n2 := T.n_Web_kept_nodes
    have n3 := T.n_Web_kept_trees
    have n4 := T.n_Web_names_by_parts
    have hfl := h8.len
    have hsl : (szL fs).length = fs.length := by unfold szL; rw [List.length_map]
    have hrl : (rlL fs).length = fs.length := by unfold rlL; rw [List.length_map]
    walk_at "rd"
    refine ifd (fun _ => ?_) (fun e => absurd hl.1 e)
    walk_at "rd"
    refine ifnd (fun e => absurd hl.2 e) (fun _ => ?_)
    walk_at "rd"
    refine ⟨a, m, es, fs, (k : Int), rfl, hw, .inl ⟨k, fk, rfl, hk, ?_⟩⟩
    walk_at "rd"
    refine ⟨a, m, es, fs, (r : Int), rfl, hw, .inl ⟨r, fr, rfl, hr2, ?_⟩⟩
    have esz : (1 : Int) + (szF fk : Int) + (szF fr : Int) = ((szF (.cons l fk fr) : Nat) : Int) := by simp only [szF]; omega
    walk_at "rd"
    rw [esz]
    refine ifd (fun e => (show False from by
      have e' : (2 ^ 59 : Int) < ((szF (.cons l fk fr) : Nat) : Int) := e
      have : ((szF (.cons l fk fr) : Nat) : Int) ≤ ((2 ^ 59 : Nat) : Int) := by exact_mod_cast hsz
      omega).elim) (fun _ => ?_)
    walk_at "rd"
    intro b hb
    have s1 : Same H (upd H b (.tup [.int l, .int (k : Int), .int (r : Int)])) := sm_up hb
    have hb1 : (upd H b (.tup [.int l, .int (k : Int), .int (r : Int)])) b = some (.tup ((keyT (l, k, r)).map kV)) := upd_same
    have hw1 := hw.up s1
    have c1 : b ≠ m.pa := ne_fr h2 hb
    have c2 : b ≠ m.na := ne_fr h4 hb
    have c3 : b ≠ m.ta := ne_fr h5 hb
    have c4 : b ≠ m.da := ne_fr h6 hb
    generalize upd H b (.tup [.int l, .int (k : Int), .int (r : Int)]) = H1 at *
    obtain ⟨dx1, us1, g1, g2, g3, g4, g5, g6, -, -⟩ := id hw1
    walk_at "rd"
    refine ⟨m.da, _, rfl, DGet.t g6 hb1, ?_⟩
    rcases kvW_val (l, k, r) es 0 with ⟨hno, hv⟩ | ⟨i, hi, hv⟩
    · rw [hv]
      refine ⟨true, rfl, ?_⟩
      refine iteT ?_
      walk_at "rd"
      refine ⟨m.da, _, rfl, DPut.t (k := keyT (l, k, r)) g6 hb1 (by rw [kvW_len]; exact szlt (by omega)), ?_⟩
      rw [putK_new _ hv, show (V.non :: us1).length = es.length + 1 from by rw [List.length_cons, g3.1], show ((es.length + 1 : Nat) : Int) = ((0 + es.length + 1 : Nat) : Int) from by omega, ← kvW_snoc]
      have i1 : (upd H1 m.da (.dT (kvW 0 (es ++ [(l, k, r)])))) a = some (.ins T.Web.C dx1 (fldW m)) := (upd_ne (ne_of g1 g6 (by intro z; cases z))).trans g1
      have i2 : (upd H1 m.da (.dT (kvW 0 (es ++ [(l, k, r)])))) m.pa = some (.lst (.non :: us1)) := (upd_ne h7.e3).trans g2
      have i4 : (upd H1 m.da (.dT (kvW 0 (es ++ [(l, k, r)])))) m.na = some (.lst ((szL fs).map V.int)) := (upd_ne h7.e5).trans g4
      have i5 : (upd H1 m.da (.dT (kvW 0 (es ++ [(l, k, r)])))) m.ta = some (.lst ((rlL fs).map V.int)) := (upd_ne h7.e6).trans g5
      have i6 : (upd H1 m.da (.dT (kvW 0 (es ++ [(l, k, r)])))) m.da = some (.dT (kvW 0 (es ++ [(l, k, r)]))) := upd_same
      have b2 : ButW m H1 (upd H1 m.da (.dT (kvW 0 (es ++ [(l, k, r)])))) := fun q o _ _ _ z e => (upd_ne z).trans e
      have i7 : (upd H1 m.da (.dT (kvW 0 (es ++ [(l, k, r)])))) b = some (.tup ((keyT (l, k, r)).map kV)) := (upd_ne c4).trans hb1
      generalize upd H1 m.da (.dT (kvW 0 (es ++ [(l, k, r)]))) = H2 at *
      have lus : us1.length ≤ 60000 := by rw [g3.1]; omega
      have na1 : a ≠ m.pa := ne_of i1 i2 (by intro z; cases z)
      have na2 : a ≠ m.na := ne_of i1 i4 (by intro z; cases z)
      have na3 : a ≠ m.ta := ne_of i1 i5 (by intro z; cases z)
      have e1 := h7.e1
      have e2 := h7.e2
      have e3 := h7.e3
      have e4 := h7.e4
      have e5 := h7.e5
      have e6 := h7.e6
      have lfs : fs.length ≤ 60000 := by omega
      walk_at "rd"
      refine r_ixI (ns := rlL fs) (SqL.of (by walk_at "hg")) (by omega) (by have := h8.lt hr2; omega) fun x hx => ?_
      rw [Int.toNat_natCast, rlL_at hr2] at hx
      obtain rfl := Option.some.inj hx
      walk_at "rd"
      refine ⟨m.da, .int ((0 + es.length + 1 : Nat) : Int), rfl, ?_, ?_⟩
      · rw [← (show valV (kvW 0 (es ++ [(l, k, r)])) (keyT (l, k, r)) = some (.int ((0 + es.length + 1 : Nat) : Int)) from by
          rw [kvW_snoc, valV_snoc _ _ _ _ hv, if_pos rfl])]
        exact DGet.t (by walk_at "hg") (by
          rw [upd_ne c3, upd_ne c2, upd_ne c1]
          exact i7)
      · have hf : (fs ++ [.cons l fk fr])[es.length + 1]? = some (.cons l fk fr) := by
          rw [← hfl, List.getElem?_append_right (Nat.le_refl _), Nat.sub_self]
          rfl
        rw [Nat.zero_add]
        refine kk (es.length + 1) (es ++ [(l, k, r)]) (fs ++ [.cons l fk fr]) _ ?_ ⟨dx1, us1 ++ [.ref b], by walk_at "hg", ?_, ?_, ?_, ?_, by walk_at "hg", h7, h8.snoc hl hk hr2⟩ ⟨_, rfl⟩ hf (by rw [List.length_append]; exact Nat.le_refl _)
        · intro q o z1 z2 z3 z4 e
          rw [upd_ne z3, upd_ne z2, upd_ne z1]
          exact b2 q o z1 z2 z3 z4 (s1 _ _ e)
        · rw [upd_ne e2, upd_ne e1, upd_same]
          rfl
        · refine ⟨by rw [List.length_append, List.length_append, g3.1]; rfl, fun i v e q1 q2 => ?_⟩
          have key : ∀ c, H1 c = some (.tup (entV e)) → (upd (upd (upd H2 m.pa (.lst (.non :: us1 ++ [.ref b]))) m.na (.lst ((szL fs).map V.int ++ [.int ((szF (.cons l fk fr) : Nat) : Int)]))) m.ta (.lst ((rlL fs).map V.int ++ [.int (1 + ((rlF fr).length : Int))]))) c = some (.tup (entV e)) := fun c hc => by
            rw [upd_ne (ne_of hc g5 (by intro z; cases z)), upd_ne (ne_of hc g4 (by intro z; cases z)), upd_ne (ne_of hc g2 (by intro z; cases z))]
            exact b2 c _ (ne_of hc g2 (by intro z; cases z)) (ne_of hc g4 (by intro z; cases z)) (ne_of hc g5 (by intro z; cases z)) (ne_of hc g6 (by intro z; cases z)) hc
          rw [List.getElem?_append] at q1 q2
          by_cases hi : i < es.length
          · rw [if_pos (by rw [g3.1]; exact hi)] at q1
            rw [if_pos hi] at q2
            obtain ⟨c, p1, p2⟩ := g3.2 i v e q1 q2
            exact ⟨c, p1, key c p2⟩
          · rw [if_neg (by rw [g3.1]; exact hi)] at q1
            rw [if_neg hi] at q2
            rw [g3.1] at q1
            cases e3' : i - es.length with
            | zero =>
              rw [e3'] at q1 q2
              obtain rfl : V.ref b = v := by simpa using q1
              obtain rfl : (l, k, r) = e := by simpa using q2
              exact ⟨b, rfl, key b hb1⟩
            | succ n =>
              rw [e3'] at q1
              simp at q1
        · rw [upd_ne e4, upd_same, iLs, show szL (fs ++ [.cons l fk fr]) = szL fs ++ [((szF (.cons l fk fr) : Nat) : Int)] from by unfold szL; rw [List.map_append]; rfl, List.map_append]
          rfl
        · rw [upd_same, iLs, show rlL (fs ++ [.cons l fk fr]) = rlL fs ++ [1 + ((rlF fr).length : Int)] from by
            unfold rlL
            rw [List.map_append]
            simp only [List.map_cons, List.map_nil, rlF, List.length_cons]
            congr 2
            omega, List.map_append]
          rfl
    · rw [hv]
      refine ⟨false, rfl, ?_⟩
      refine iteF ?_
      walk_at "rd"
      refine ⟨m.da, .int ((0 + i + 1 : Nat) : Int), rfl, ?_, ?_⟩
      · rw [← hv]
        exact DGet.t g6 hb1
      · obtain ⟨_, _, _, fk', fr', q1, q2, q3⟩ := h8.hs i l k r hi
        rw [hk] at q1
        rw [hr2] at q2
        cases q1
        cases q2
        rw [Nat.zero_add]
        exact kk (i + 1) es fs H1 (ButW.same s1) hw1 ⟨[], by simp⟩ q3 (Nat.le_succ _)
end

/-! ### the forests that begin at a row's openings -/
def subF : Fo → List Fo
  | .nil => []
  | .cons l k r => .cons l k r :: (subF k ++ subF r)
theorem subF_len : ∀ f : Fo, (subF f).length = szF f
  | .nil => rfl
  | .cons l k r => by
    simp only [subF, szF, List.length_cons, List.length_append, subF_len k, subF_len r]
    omega
theorem subF_hd {f : Fo} (h : f ≠ .nil) : (subF f)[0]? = some f := by
  cases f with
  | nil => exact absurd rfl h
  | cons l k r => rfl
theorem subF_sz : ∀ (f : Fo) (g : Fo), g ∈ subF f → szF g ≤ szF f
  | .nil, g, h => by simp [subF] at h
  | .cons l k r, g, h => by
    simp only [subF, List.mem_cons, List.mem_append] at h
    rcases h with e | e | e
    · rw [e]
      exact Nat.le_refl _
    · have := subF_sz k g e
      simp only [szF]
      omega
    · have := subF_sz r g e
      simp only [szF]
      omega
theorem sub_at : ∀ (f : Fo), okF f → ∀ (s j : Nat) (t : Int × Int × Int), (triF s f)[j]? = some t → ∃ l k r, (subF f)[j]? = some (.cons l k r) ∧ t = (l, hdN (s + j + 1) k, hdN (s + j + 1 + szF k) r) ∧ (1 ≤ l ∧ l ≤ 9) ∧
    (k ≠ .nil → (subF f)[j + 1]? = some k) ∧ (r ≠ .nil → (subF f)[j + 1 + szF k]? = some r)
  | .nil, _, s, j, t, h => by simp [triF] at h
  | .cons l k r, ⟨h1, h2, h3⟩, s, j, t, h => by
    cases j with
    | zero =>
      have e : (l, hdN (s + 1) k, hdN (s + 1 + szF k) r) = t := by simpa [triF] using h
      refine ⟨l, k, r, rfl, e.symm, h1, fun hk => ?_, fun hr => ?_⟩
      · show (subF k ++ subF r)[0]? = some k
        have e1 := subF_hd hk
        rw [List.getElem?_append_left (List.getElem?_eq_some_iff.mp e1).1]
        exact e1
      · rw [show 0 + 1 + szF k = szF k + 1 from by omega]
        show (subF k ++ subF r)[szF k]? = some r
        rw [← subF_len k, List.getElem?_append_right (Nat.le_refl _), Nat.sub_self]
        exact subF_hd hr
    | succ j =>
      simp only [triF, List.getElem?_cons_succ] at h
      rw [List.getElem?_append] at h
      rw [triF_len] at h
      have sh : ∀ i, (subF (.cons l k r))[i + 1]? = (subF k ++ subF r)[i]? := fun i => rfl
      by_cases hj : j < szF k
      · rw [if_pos hj] at h
        obtain ⟨l', k', r', g1, g2, g3, g4, g5⟩ := sub_at k h2 (s + 1) j t h
        have ap : ∀ {i : Nat} {f : Fo}, (subF k)[i]? = some f → (subF k ++ subF r)[i]? = some f := fun {i f} e => by
          rw [List.getElem?_append_left (List.getElem?_eq_some_iff.mp e).1]
          exact e
        refine ⟨l', k', r', by rw [sh]; exact ap g1, ?_, g3, fun hk => ?_, fun hr => ?_⟩
        · rw [g2, show s + 1 + j + 1 = s + (j + 1) + 1 from by omega]
        · rw [sh]
          exact ap (g4 hk)
        · rw [show j + 1 + 1 + szF k' = (j + 1 + szF k') + 1 from by omega, sh]
          exact ap (g5 hr)
      · rw [if_neg hj] at h
        obtain ⟨l', k', r', g1, g2, g3, g4, g5⟩ := sub_at r h3 (s + 1 + szF k) (j - szF k) t h
        have ap : ∀ {i : Nat} {f : Fo}, (subF r)[i]? = some f → (subF k ++ subF r)[szF k + i]? = some f := fun {i f} e => by
          rw [List.getElem?_append_right (by rw [subF_len]; omega), subF_len, Nat.add_sub_cancel_left]
          exact e
        refine ⟨l', k', r', ?_, ?_, g3, fun hk => ?_, fun hr => ?_⟩
        · rw [sh]
          have := ap g1
          rwa [show szF k + (j - szF k) = j from by omega] at this
        · rw [g2, show s + 1 + szF k + (j - szF k) + 1 = s + (j + 1) + 1 from by omega]
        · rw [sh]
          have := ap (g4 hk)
          rwa [show szF k + (j - szF k + 1) = j + 1 from by omega] at this
        · rw [show j + 1 + 1 + szF k' = (j + 1 + szF k') + 1 from by omega, sh]
          have := ap (g5 hr)
          rwa [show szF k + (j - szF k + 1 + szF k') = j + 1 + szF k' from by omega] at this
section
variable {P : Program} {w : World} {K : PySem.W.Frag} {mg : Str → Option Value} {base : Heap}
theorem hdN_nil (s : Nat) {f : Fo} (h : f = .nil) : hdN s f = -1 := by rw [h]; rfl
theorem hdN_pos (s : Nat) {f : Fo} (h : f ≠ .nil) : hdN s f = (s : Int) := by
  cases f with
  | nil => exact absurd rfl h
  | cons l k r => rfl
/-- what stands in made at a place, -1 being the last one -/
theorem r_made {H : Hp} {Q : VK} {ma : Addr} {ms : List Int} {n : Nat} {s : Nat} {f : Fo} {N : Nat} (h : SqL K H ma (ms.map V.int)) (hl : ms.length = n + 1) (h0 : f = .nil → ms[n]? = some (N : Int)) (h1 : f ≠ .nil → ms[s]? = some (N : Int)) (k : Q (.int (N : Int)) H) : rIxL K (.ref ma) (.int (hdN s f)) H Q := by
  by_cases hf : f = .nil
  · rw [hdN_nil s hf]
    have e := h0 hf
    have hd : ms = ms.take n ++ [(N : Int)] := by
      have e1 : ms.take (n + 1) = ms := by rw [← hl]; exact List.take_length
      rw [List.take_add_one, e] at e1
      exact e1.symm
    rw [hd, List.map_append] at h
    exact r_last h k
  · rw [hdN_pos s hf]
    have e := h1 hf
    have hs := (List.getElem?_eq_some_iff.mp e).1
    refine r_ixI h (by omega) (by omega) fun x hx => ?_
    rw [Int.toNat_natCast, e] at hx
    obtain rfl := Option.some.inj hx
    exact k
theorem WebAt.mut {T : Tx K mg} {H : Hp} {a p : Addr} {m : WA} {es : List Ent} {fs : List Fo} {ns : List Int} {o : HO} (h : WebAt T H a m es fs) (hp : H p = some (iLs ns)) (n1 : m.na ≠ p) (n2 : m.ta ≠ p) : WebAt T (upd H p o) a m es fs :=
  (h.wo hp n1 n2).up (by
    rw [← wo_upd (H := H) (p := p) (o := o)]
    exact sm_wo)
def sp_of_row (T : Tx K mg) : Sp := fun vs H Q _ => ∃ (a ra : Addr) (m : WA) (es : List Ent) (fs : List Fo) (f : Fo), vs = [.ref a, .ref ra] ∧ WebAt T H a m es fs ∧ SqL K H ra ((rowF f).map V.int) ∧ okF f ∧ szF f ≤ 400 ∧ es.length ≤ 40000 ∧
  ∀ (n : Nat) (es' : List Ent) (fs' : List Fo) (H' : Hp), ButW m H H' → WebAt T H' a m es' fs' → (∃ more, fs' = fs ++ more) → fs'[n]? = some f → es'.length ≤ es.length + szF f → Q (.int (n : Int)) H'
theorem ok_Web_of_row (T : Tx K mg) (O : Ox K mg) : FnOk P w K mg base CX0 6 T.d_Web_of_row.a T.d_Web_of_row.fd P_Web_of_row (sp_of_row T) := by
  refine T.d_Web_of_row.F.ok sc_Web_of_row (fun vs H Q E h => ?_) (fun cdv A outer s H vs Q E hr h => ?_)
  · obtain ⟨_, _, _, _, _, _, rfl, _⟩ := h
    rfl
  · obtain ⟨a, ra, m, es, fs, f, rfl, hw, hra, hf, hsz, hes, kk⟩ := h
    refine ⟨_, ((pss_cons (ps_set (i := 2) sc_Web_of_row.nd rfl (by first | exact Or.inl rfl | exact Or.inr rfl) (pe_call (ok_binary_of_row T) (hr.mono (by decide)) rfl T.d_binary_of_row.g T.d_binary_of_row.F.kp T.d_binary_of_row.b .nil pass0 (pa_cons (pv 1) pa_nil)))
  (pss_cons (ps_set (i := 3) sc_Web_of_row.nd rfl (by first | exact Or.inl rfl | exact Or.inr rfl) (pe_op op_rep (pe_lst (pa_cons pe_int pa_nil)) (pe_op op_add (pe_callB (r := cLen K) k_len (by rfl) T.b_len (by decide +kernel) (pa_cons (pv 2) pa_nil)) pe_int)))
  (pss_cons (ps_for PassesOwn.never rfl (pi_revR rfl T.b_reversed (prg_1 rfl T.b_range (pe_callB (r := cLen K) k_len (by rfl) T.b_len (by decide +kernel) (pa_cons (pv 2) pa_nil)))) (pg_name (i := 4) sc_Web_of_row.nd rfl (by first | exact Or.inl rfl | exact Or.inr rfl)) 
    (pss_cons (ps_asg (pe_ix (r := rIxL K) ix_list (pv 2) (pv 4) (fun _ _ => rfl)) (pg_tup (by rfl) (pgs_cons (pg_name (i := 5) sc_Web_of_row.nd rfl (by first | exact Or.inl rfl | exact Or.inr rfl)) (pgs_cons (pg_name (i := 6) sc_Web_of_row.nd rfl (by first | exact Or.inl rfl | exact Or.inr rfl)) (pgs_cons (pg_name (i := 7) sc_Web_of_row.nd rfl (by first | exact Or.inl rfl | exact Or.inr rfl)) pgs_nil)))))
    (pss_one (ps_asg (pe_meth (pv 0) T.Web.cl T.m_Web_forest (ok_Web_forest T O) (hr.mono (by decide)) T.d_Web_forest.b .nil pass0 (pa_cons (pv 5) (pa_cons (pe_ix (r := rIxL K) ix_list (pv 3) (pv 6) (fun _ _ => rfl)) (pa_cons (pe_ix (r := rIxL K) ix_list (pv 3) (pv 7) (fun _ _ => rfl)) pa_nil)))) (pg_sub (pv 3) (pv 4) set_list)))))
  (pss_one (ps_ret (pe_ix (r := rIxL K) ix_list (pv 3) pe_int (fun _ _ => rfl)))))))), ?_⟩
    try simp only [nxK, cxK]
    walk_at "rd"
    refine ⟨ra, f, rfl, hra, hf, hsz, fun tl H1 s1 htl htd => ?_⟩
    have hw1 := hw.up s1
    obtain ⟨dx, us, h1, h2, h3, h4, h5, h6, h7, h8⟩ := id hw
    have offG : OffW (nw H H1) m := ⟨by unfold nw; rw [h2]; rfl, by unfold nw; rw [h4]; rfl, by unfold nw; rw [h5]; rfl, by unfold nw; rw [h6]; rfl⟩
    have sG1 : Same (nw H H1) H1 := nw_le
    obtain ⟨_, ts, e0, htq, hts⟩ := dp_list' htd
    cases e0
    have tln : ts.length = szF f := by rw [dps_len hts, List.length_map, triF_len]
    have htq1 : SqL K H1 tl ts := sG1.seq htq
    walk_at "rd"
    intro q1 hq1
    walk_at "rd"
    intro ma hma
    have s3 : Same H (upd (upd H1 q1 (.lst [.int 0])) ma (.lst (List.replicate (ts.length + 1) (.int 0)))) := by walk_at "sm"
    have nm1 : ma ≠ m.pa := ne_fr (by
      have e := hget (sm_up hq1 (o := .lst [.int 0])) (s1 _ _ h2)
      exact e) hma
    have nm2 : ma ≠ m.na := ne_fr (hget (sm_up hq1 (o := .lst [.int 0])) (s1 _ _ h4)) hma
    have nm3 : ma ≠ m.ta := ne_fr (hget (sm_up hq1 (o := .lst [.int 0])) (s1 _ _ h5)) hma
    have nm4 : ma ≠ m.da := ne_fr (hget (sm_up hq1 (o := .lst [.int 0])) (s1 _ _ h6)) hma
    have fma : H ma = none := by walk_at "fr"
    have g1 : nw H H1 ma = none := by
      rw [nw_at fma]
      exact (sm_up hq1 (o := .lst [.int 0])).free hma
    walk_at "rd"
    have en : ((ts.length : Int) - 0).toNat = szF f := by omega
    have en1 : ((ts.length : Int) + 1).toNat = szF f + 1 := by omega
    refine ⟨by decide, by decide, by omega, by omega, ?_⟩
    rw [en, en1]
    refine forJ walk_rangeC ⟨fun i σ H' => ∃ (ms : List Int) (es' : List Ent) (fs' : List Fo) (v4 v5 v6 v7 : Option V), σ = [some (.ref a), some (.ref ra), some (.ref tl), some (.ref ma), v4, v5, v6, v7] ∧ Same (nw H H1) H' ∧ ButW m H H' ∧ H' ma = some (iLs ms) ∧
      ms.length = szF f + 1 ∧ ms[szF f]? = some 0 ∧ (∀ j, szF f ≤ j + i → j < szF f → ∃ (N : Nat) (g : Fo), ms[j]? = some (N : Int) ∧ fs'[N]? = some g ∧ (subF f)[j]? = some g) ∧ WebAt T H' a m es' fs' ∧ (∃ more, fs' = fs ++ more) ∧ es'.length ≤ es.length + i, ?_, fun _ _ _ _ _ => trivial, ?_, ?_⟩
    · refine ⟨List.replicate (szF f + 1) 0, es, fs, none, none, none, none, rfl, ?_, ?_, ?_, by rw [List.length_replicate], by rw [List.getElem?_replicate, if_pos (Nat.lt_succ_self _)], fun j h1 h2 => absurd h1 (by omega), ?_, ⟨[], by simp⟩, Nat.le_refl _⟩
      · exact sm_mut (sG1.trans (sm_up hq1)) g1
      · refine ButW.same ?_
        rw [tln] at s3
        exact s3
      · rw [upd_same, iLs, List.map_replicate]
      · rw [tln] at s3
        exact hw.up s3
    · rintro i x σ H3 H4 hi ⟨ms, es', fs', v4, v5, v6, v7, rfl, g3, b3, hm3, lms, hms0, hms, hw3, ⟨more, rfl⟩, les⟩ ⟨rfl, hxe⟩
      obtain ⟨j, hj⟩ : ∃ j, j = szF f - 1 - i := ⟨_, rfl⟩
      have ej : (0 : Int) + ((szF f : Nat) : Int) - 1 + ((i : Nat) : Int) * (-1) = (j : Int) := by omega
      have hxe2 : x = V.int (j : Int) := by
        rw [hxe]
        exact congrArg V.int ej
      subst hxe2
      have hjl : j < (triF 0 f).length := by rw [triF_len]; omega
      obtain ⟨l, k, r, hsub, ht, hl, hk, hr2⟩ := sub_at f hf 0 j (triF 0 f)[j] (List.getElem?_eq_getElem hjl)
      have hw3w := hw3
      obtain ⟨_, _, _, _, _, _, _, _, -, w8⟩ := hw3w
      have szs := subF_sz f _ (List.mem_of_getElem? hsub)
      have one : ∀ (g : Fo) (s : Nat), (g ≠ .nil → (subF f)[s]? = some g) → j < s → ∃ N : Nat, (g = .nil → ms[szF f]? = some (N : Int)) ∧ (g ≠ .nil → ms[s]? = some (N : Int)) ∧ (fs ++ more)[N]? = some g := fun g s h hs => by
        by_cases hg : g = .nil
        · exact ⟨0, fun _ => hms0, fun q => absurd hg q, by rw [hg]; exact w8.h0⟩
        · have e := h hg
          have hsl := (List.getElem?_eq_some_iff.mp e).1
          rw [subF_len] at hsl
          obtain ⟨N, g', e1, e2, e3⟩ := hms s (by omega) hsl
          rw [e] at e3
          cases e3
          exact ⟨N, fun q => absurd q hg, fun _ => e1, e2⟩
      obtain ⟨N1, p1, p2, p3⟩ := one k (j + 1) hk (by omega)
      obtain ⟨N2, r1, r2, r3⟩ := one r (j + 1 + szF k) hr2 (by omega)
      walk_at "rd"
      refine r_ixdG g3 htd (by omega) (d := dT3 (triF 0 f)[j]) ?_ fun v hv => ?_
      · rw [Int.toNat_natCast, List.getElem?_map, List.getElem?_eq_getElem hjl]
        rfl
      rw [ht, Nat.zero_add] at hv
      obtain ⟨tb, rfl, htb⟩ := dp_tints' (show Dp K (nw H H1) v (dTI [l, hdN (j + 1) k, hdN (j + 1 + szF k) r]) from hv)
      have htbH : SqT K H4 tb [.int l, .int (hdN (j + 1) k), .int (hdN (j + 1 + szF k) r)] := sm_tp g3 htb
      obtain ⟨dx4, us4, k1, -, -, -, -, -, -, -⟩ := id hw3
      unfold iLs at hm3
      walk_at "rd"
      refine r_made (SqL.of hm3) lms p1 p2 ?_
      walk_at "rd"
      refine r_made (SqL.of hm3) lms r1 r2 ?_
      walk_at "rd"
      refine ⟨a, m, es', fs ++ more, l, N1, N2, k, r, rfl, hw3, hl, p3, r3, Nat.le_trans (Nat.le_trans szs hsz) (by decide), by omega, fun n es2 fs2 H5 b5 hw5 more5 hn5 hl5 => ?_⟩
      have hm5 : H5 ma = some (.lst (ms.map V.int)) := b5 ma _ nm1 nm2 nm3 nm4 hm3
      obtain ⟨more2, rfl⟩ := more5
      walk_at "rd"
      rw [Int.toNat_natCast]
      refine ⟨ms.set j (n : Int), es2, (fs ++ more) ++ more2, _, _, _, _, rfl, sm_mut (sm_butW g3 offG b5) g1, fun q o z1 z2 z3 z4 e => ?_, ?_, by rw [List.length_set]; exact lms, ?_, ?_, hw5.mut hm5 nm2.symm nm3.symm, ⟨more ++ more2, by rw [List.append_assoc]⟩, by omega⟩
      · rw [upd_ne (ne_of_none e fma)]
        exact b5 q o z1 z2 z3 z4 (b3 q o z1 z2 z3 z4 e)
      · rw [upd_same, iLs, List.map_set]
      · rw [List.getElem?_set_ne (by omega)]
        exact hms0
      · intro j2 q1 q2
        by_cases hj2 : j2 = j
        · subst hj2
          refine ⟨n, .cons l k r, ?_, hn5, hsub⟩
          rw [List.getElem?_set_self (by omega)]
        · obtain ⟨N, g, e1, e2, e3⟩ := hms j2 (by omega) q2
          refine ⟨N, g, ?_, ?_, e3⟩
          · rw [List.getElem?_set_ne (fun z => hj2 z.symm)]
            exact e1
          · rw [List.getElem?_append_left (List.getElem?_eq_some_iff.mp e2).1]
            exact e2
    · rintro σ H3 ⟨ms, es', fs', v4, v5, v6, v7, rfl, g3, b3, hm3, lms, hms0, hms, hw3, hmore, les⟩
      walk_at "rd"
      have hz : ∃ N : Nat, ms[0]? = some (N : Int) ∧ fs'[N]? = some f := by
        by_cases hfn : f = .nil
        · subst hfn
          obtain ⟨_, _, _, _, _, _, _, _, -, w8⟩ := hw3
          exact ⟨0, hms0, w8.h0⟩
        · have e := subF_hd hfn
          have hsl := (List.getElem?_eq_some_iff.mp e).1
          rw [subF_len] at hsl
          obtain ⟨N, g, e1, e2, e3⟩ := hms 0 (by omega) hsl
          rw [e] at e3
          cases e3
          exact ⟨N, e1, e2⟩
      obtain ⟨N, e1, e2⟩ := hz
      refine r_ixI (SqL.of hm3) (by decide) (by omega) fun x hx => ?_
      rw [show (0 : Int).toNat = 0 from rfl, e1] at hx
      obtain rfl := Option.some.inj hx
      exact kk N es' fs' H3 b3 hw3 hmore e2 les
end

def letN (r : Rule) (n : Int) : Bool := match r with
  | none => false
  | some (m, _) => match m with
    | none => true
    | some ms => decide (n ∈ ms)
def letK (r : Rule) (n : Int) (ks : List Int) : Bool := letN r n && match r with
  | none => false
  | some (_, ls) => ks.all fun k => decide (k ∈ ls)
theorem lets_letK (r : Rule) (ks : List Int) : lets r ks = letK r (ks.length : Int) ks := by
  cases r with
  | none => rfl
  | some p =>
    obtain ⟨m, ls⟩ := p
    cases m <;> rfl
section
variable {K : PySem.W.Frag} {H : Hp} {Q : VK} {x v : V}
theorem dTRo_none {r : Rule} (h : Dp K H x (dTRo r)) : decide (x = .non) = decide (r = none) := by
  cases r with
  | none =>
    cases h
    rfl
  | some p =>
    obtain ⟨a, vs, rfl, _⟩ := dp_tup' (show Dp K H x (.tuple [dTM p.1, dTI p.2]) from h)
    rfl
theorem dTM_none {m : Option (List Int)} (h : Dp K H x (dTM m)) : decide (x = .non) = decide (m = none) := by
  cases m with
  | none =>
    cases h
    rfl
  | some p =>
    obtain ⟨a, rfl, _⟩ := dp_tints' (show Dp K H x (dTI p) from h)
    rfl
theorem r_tM {m : Option (List Int)} {ls : List Int} (h : Dp K H v (dTRo (some (m, ls)))) (k : ∀ u, Dp K H u (dTM m) → Q u H) : rIxT K v (.int 0) H Q := r_ixtd (ds := [dTM m, dTI ls]) h (by decide) rfl k
theorem r_tL {m : Option (List Int)} {ls : List Int} (h : Dp K H v (dTRo (some (m, ls)))) (k : ∀ a, SqT K H a (ls.map V.int) → Q (.ref a) H) : rIxT K v (.int 1) H Q := r_ixtd (ds := [dTM m, dTI ls]) h (by decide) rfl fun u hu => by
  obtain ⟨a, rfl, hs⟩ := dp_tints' hu
  exact k a hs
end
section
variable {P : Program} {w : World} {K : PySem.W.Frag} {mg : Str → Option Value} {base : Heap}
def sp_of_tree (T : Tx K mg) : Sp := fun vs H Q _ => ∃ (a tr : Addr) (m : WA) (es : List Ent) (fs : List Fo) (l : Int) (kf : Fo), vs = [.ref a, .ref tr] ∧ WebAt T H a m es fs ∧ TreeAt T H tr (tabF (-1) 0 (.cons l kf .nil)) ∧ okF (.cons l kf .nil) ∧ szF (.cons l kf .nil) ≤ 400 ∧ es.length ≤ 40000 ∧
  ∀ (n : Nat) (es' : List Ent) (fs' : List Fo) (H' : Hp), ButW m H H' → WebAt T H' a m es' fs' → (∃ more, fs' = fs ++ more) → fs'[n]? = some (.cons l kf .nil) → es'.length ≤ es.length + szF (.cons l kf .nil) → Q (.int (n : Int)) H'
theorem ok_Web_of_tree (T : Tx K mg) (O : Ox K mg) : FnOk P w K mg base CX0 7 T.d_Web_of_tree.a T.d_Web_of_tree.fd P_Web_of_tree (sp_of_tree T) := by
  refine T.d_Web_of_tree.F.ok sc_Web_of_tree (fun vs H Q E h => ?_) (fun cdv A outer s H vs Q E hr h => ?_)
  · obtain ⟨_, _, _, _, _, _, _, rfl, _⟩ := h
    rfl
  · obtain ⟨a, tr, m, es, fs, l, kf, rfl, hw, htr, hf, hsz, hes, kk⟩ := h
    refine ⟨_, ((pss_one (ps_ret (pe_meth (pv 0) T.Web.cl T.m_Web_of_row (ok_Web_of_row T O) (hr.mono (by decide)) T.d_Web_of_row.b .nil pass0 (pa_cons (pe_call (ok_row_of_tree T) (hr.mono (by decide)) rfl T.d_row_of_tree.g T.d_row_of_tree.F.kp T.d_row_of_tree.b .nil pass0 (pa_cons (pv 1) pa_nil)) pa_nil))))), ?_⟩
    try simp only [nxK, cxK]
    obtain ⟨dx, us, h1, -⟩ := id hw
    walk_at "rd"
    refine ⟨tr, l, kf, rfl, htr, hsz, fun ra H1 s1 hra hra1 => ?_⟩
    have h11 := s1 _ _ h1
    walk_at "rd"
    refine ⟨a, ra, m, es, fs, .cons l kf .nil, rfl, hw.up s1, SqL.of hra1, hf, hsz, hes, fun n es' fs' H' b hw' mo hn hl => ?_⟩
    exact kk n es' fs' H' ((ButW.same s1).trans b) hw' mo hn hl
def sp_asc (K : PySem.W.Frag) : Sp := fun vs H Q _ => ∃ (a : Addr) (lo hi : Int) (ns : List Int), vs = [.ref a, .int lo, .int hi] ∧ SqT K H a (ns.map V.int) ∧ AscB lo (hi + 1) ns ∧ Q (.bl true) H
theorem ok_ascending_between (T : Tx K mg) : FnOk P w K mg base CX0 1 T.d_ascending_between.a T.d_ascending_between.fd P_ascending_between (sp_asc K) := by
  refine T.d_ascending_between.F.ok sc_ascending_between (fun vs H Q E h => ?_) (fun cdv A outer s H vs Q E hr h => ?_)
  · obtain ⟨_, _, _, _, rfl, _⟩ := h
    rfl
  · obtain ⟨a, lo, hi, ns, rfl, hs, hasc, k⟩ := h
    refine ⟨_, ((pss_cons (ps_set (i := 3) sc_ascending_between.nd rfl (by first | exact Or.inl rfl | exact Or.inr rfl) (pe_op op_sub (pv 1) pe_int))
  (pss_cons (ps_for PassesOwn.never rfl (pi_tup (pv 0)) (pg_name (i := 4) sc_ascending_between.nd rfl (by first | exact Or.inl rfl | exact Or.inr rfl)) 
    (pss_cons (ps_if (pt_not (pt_chain op_lt op_le (pv 3) (pv 4) (pv 2))) 
      (pss_one (ps_ret pe_bl)) pss_nil)
    (pss_one (ps_set (i := 3) sc_ascending_between.nd rfl (by first | exact Or.inl rfl | exact Or.inr rfl) (pv 4)))))
  (pss_one (ps_ret pe_bl))))), ?_⟩
    try simp only [nxK, cxK]
    walk_at "rd"
    refine ⟨a, rfl, ⟨_, hs⟩, forJ (walk_tup (xs := ns.map V.int)) ⟨fun i σ H' => ∃ (c : Int) (v4 : Option V), σ = [some (.ref a), some (.int lo), some (.int hi), some (.int c), v4] ∧ H' = H ∧ c < lo + (if i = 0 then 0 else hi + 1 - lo) ∧ ∀ j n, ns[j]? = some n → i ≤ j → c < n, ?_, fun i σ H' _ h => ?_, ?_, ?_⟩⟩
    · exact ⟨lo - 1, none, rfl, rfl, by simp; omega, fun j n hn _ => by have := (hasc.2 n (List.mem_of_getElem? hn)).1; omega⟩
    · obtain ⟨_, _, _, rfl, _⟩ := h
      exact hs
    · rintro i x σ H3 H4 hi2 ⟨c, v4, rfl, rfl, -, hc⟩ ⟨rfl, hx⟩
      obtain ⟨n, hn, rfl⟩ := map_get hx
      have hb := hasc.2 n (List.mem_of_getElem? hn)
      have hcn := hc i n hn (Nat.le_refl _)
      walk_at "rd"
      refine ifd (fun _ => ?_) (fun e => absurd hcn e)
      walk_at "rd"
      refine ifnd (fun e => (show False from by have e' : ¬ n ≤ hi := e; omega).elim) (fun _ => ?_)
      walk_at "rd"
      refine ⟨n, _, rfl, rfl, by simp; omega, fun j n2 hn2 hj => ?_⟩
      obtain ⟨hi1, e1⟩ := List.getElem?_eq_some_iff.mp hn
      obtain ⟨hj1, e2⟩ := List.getElem?_eq_some_iff.mp hn2
      have := List.pairwise_iff_getElem.mp hasc.1 i j hi1 hj1 (by omega)
      rw [e1, e2] at this
      exact this
    · rintro σ H3 ⟨c, v4, rfl, rfl, -, hc⟩
      walk_at "rd"
      exact k
def sp_lets_number (K : PySem.W.Frag) : Sp := fun vs H Q _ => ∃ (v : V) (r : Rule) (n : Int), vs = [v, .int n] ∧ Dp K H v (dTRo r) ∧ Q (.bl (letN r n)) H
theorem ok_lets_number (T : Tx K mg) : FnOk P w K mg base CX0 1 T.d_lets_number.a T.d_lets_number.fd P_lets_number (sp_lets_number K) := by
  refine T.d_lets_number.F.ok sc_lets_number (fun vs H Q E h => ?_) (fun cdv A outer s H vs Q E hr h => ?_)
  · obtain ⟨_, _, _, rfl, _⟩ := h
    rfl
  · obtain ⟨v, r, n, rfl, hv, k⟩ := h
    refine ⟨_, ((pss_cons (ps_if (pt_cmpR k_isN (pv 0) pe_non (nomark _)) 
    (pss_one (ps_ret pe_bl)) pss_nil)
  (pss_one (ps_ret (pe_or (pe_cmpR k_isN (pe_ix (r := rIxT K) ix_tup (pv 0) pe_int (fun _ _ => rfl)) pe_non (nomark _)) (pe_one (pe_cmpR (r := rIn K false) op_in_seq (pv 1) (pe_ix (r := rIxT K) ix_tup (pv 0) pe_int (fun _ _ => rfl)) rfl))))))), ?_⟩
    try simp only [nxK, cxK]
    walk_at "rd"
    rw [dTRo_none hv]
    cases r with
    | none =>
      refine iteT ?_
      walk_at "rd"
      exact k
    | some p =>
      obtain ⟨m, ls⟩ := p
      refine iteF ?_
      walk_at "rd"
      refine r_tM hv fun um hum => ?_
      walk_at "rd"
      rw [dTM_none hum]
      cases m with
      | none =>
        refine iteT ?_
        exact k
      | some ms =>
        refine iteF ?_
        walk_at "rd"
        refine r_tM hv fun um2 hum2 => ?_
        obtain ⟨ma, rfl, hma⟩ := dp_tints' (show Dp K H um2 (dTI ms) from hum2)
        walk_at "rd"
        exact k
def sp_lets_kids (K : PySem.W.Frag) : Sp := fun vs H Q _ => ∃ (v : V) (r : Rule) (n : Int) (a : Addr) (ks : List Int), vs = [v, .int n, .ref a] ∧ Dp K H v (dTRo r) ∧ SqL K H a (ks.map V.int) ∧ Q (.bl (letK r n ks)) H
def sp_lets_kidsT (K : PySem.W.Frag) : Sp := fun vs H Q _ => ∃ (v : V) (r : Rule) (n : Int) (a : Addr) (ks : List Int), vs = [v, .int n, .ref a] ∧ Dp K H v (dTRo r) ∧ SqT K H a (ks.map V.int) ∧ Q (.bl (letK r n ks)) H
theorem letK_none {r : Rule} {n : Int} {ks : List Int} (h : letN r n = false) : letK r n ks = false := by unfold letK; rw [h]; rfl
theorem letK_some {m : Option (List Int)} {ls : List Int} {n : Int} {ks : List Int} (h : letN (some (m, ls)) n = true) : letK (some (m, ls)) n ks = ks.all fun k => decide (k ∈ ls) := by unfold letK; rw [h]; rfl
theorem ok_lets_kids (T : Tx K mg) : FnOk P w K mg base CX0 2 T.d_lets_kids.a T.d_lets_kids.fd P_lets_kids (sp_lets_kids K) := by
  refine T.d_lets_kids.F.ok sc_lets_kids (fun vs H Q E h => ?_) (fun cdv A outer s H vs Q E hr h => ?_)
  · obtain ⟨_, _, _, _, _, rfl, _⟩ := h
    rfl
  · obtain ⟨v, r, n, a, ks, rfl, hv, ha, k⟩ := h
    refine ⟨_, ((pss_cons (ps_if (pt_not (pt_val (pe_call (ok_lets_number T) (hr.mono (by decide)) rfl T.d_lets_number.g T.d_lets_number.F.kp T.d_lets_number.b .nil pass0 (pa_cons (pv 0) (pa_cons (pv 1) pa_nil))))) 
    (pss_one (ps_ret pe_bl)) pss_nil)
  (pss_cons (ps_for PassesOwn.never rfl (pi_list (pv 2)) (pg_name (i := 3) sc_lets_kids.nd rfl (by first | exact Or.inl rfl | exact Or.inr rfl)) 
    (pss_one (ps_if (pt_cmpR (r := rIn K true) op_notIn_seq (pv 3) (pe_ix (r := rIxT K) ix_tup (pv 0) pe_int (fun _ _ => rfl)) rfl) 
      (pss_one (ps_ret pe_bl)) pss_nil)))
  (pss_one (ps_ret pe_bl))))), ?_⟩
    try simp only [nxK, cxK]
    walk_at "rd"
    refine ⟨v, r, n, rfl, hv, ?_⟩
    walk_at "rd"
    cases hN : letN r n with
    | false =>
      rw [letK_none hN] at k
      refine iteT ?_
      walk_at "rd"
      exact k
    | true =>
      obtain ⟨m, ls, rfl⟩ : ∃ m ls, r = some (m, ls) := by
        cases r with
        | none => cases hN
        | some p => exact ⟨p.1, p.2, rfl⟩
      rw [letK_some hN] at k
      refine iteF ?_
      walk_at "rd"
      refine ⟨a, rfl, ⟨_, ha⟩, forJ (walk_list (xs := ks.map V.int)) ⟨fun i σ H' => ∃ (v3 : Option V), σ = [some v, some (.int n), some (.ref a), v3] ∧ H' = H ∧ ∀ (j : Nat) (x : Int), j < i → ks[j]? = some x → x ∈ ls, ?_, fun i σ H' _ h => ?_, ?_, ?_⟩⟩
      · exact ⟨none, rfl, rfl, fun j x h => absurd h (Nat.not_lt_zero _)⟩
      · obtain ⟨_, _, rfl, _⟩ := h
        exact ha
      · rintro i x σ H3 H4 hi ⟨v3, rfl, rfl, hall⟩ ⟨rfl, hx⟩
        obtain ⟨y, hy, rfl⟩ := map_get hx
        walk_at "rd"
        refine r_tL hv fun la hla => ?_
        walk_at "rd"
        refine ifnd (fun e => ?_) (fun e => ?_)
        · walk_at "rd"
          have e2 : (ks.all fun k => decide (k ∈ ls)) = false := by
            rw [List.all_eq_false]
            exact ⟨y, List.mem_of_getElem? hy, by rw [decide_eq_false e]; decide⟩
          rw [e2] at k
          exact k
        · walk_at "rd"
          refine ⟨_, rfl, rfl, fun j x hj hx2 => ?_⟩
          by_cases hji : j = i
          · subst hji
            rw [hy] at hx2
            cases hx2
            exact e
          · exact hall j x (by omega) hx2
      · rintro σ H3 ⟨v3, rfl, rfl, hall⟩
        rw [List.length_map] at hall
        walk_at "rd"
        have e2 : (ks.all fun k => decide (k ∈ ls)) = true := by
          rw [List.all_eq_true]
          intro x hx
          obtain ⟨j, hj, rfl⟩ := List.mem_iff_getElem.mp hx
          exact decide_eq_true (hall j _ hj (List.getElem?_eq_getElem hj))
        rw [e2] at k
        exact k
theorem ok_lets_kidsT (T : Tx K mg) : FnOk P w K mg base CX0 2 T.d_lets_kids.a T.d_lets_kids.fd P_lets_kids (sp_lets_kidsT K) := by
  refine T.d_lets_kids.F.ok sc_lets_kids (fun vs H Q E h => ?_) (fun cdv A outer s H vs Q E hr h => ?_)
  · obtain ⟨_, _, _, _, _, rfl, _⟩ := h
    rfl
  · obtain ⟨v, r, n, a, ks, rfl, hv, ha, k⟩ := h
    refine ⟨_, ((pss_cons (ps_if (pt_not (pt_val (pe_call (ok_lets_number T) (hr.mono (by decide)) rfl T.d_lets_number.g T.d_lets_number.F.kp T.d_lets_number.b .nil pass0 (pa_cons (pv 0) (pa_cons (pv 1) pa_nil))))) 
    (pss_one (ps_ret pe_bl)) pss_nil)
  (pss_cons (ps_for PassesOwn.never rfl (pi_tup (pv 2)) (pg_name (i := 3) sc_lets_kids.nd rfl (by first | exact Or.inl rfl | exact Or.inr rfl)) 
    (pss_one (ps_if (pt_cmpR (r := rIn K true) op_notIn_seq (pv 3) (pe_ix (r := rIxT K) ix_tup (pv 0) pe_int (fun _ _ => rfl)) rfl) 
      (pss_one (ps_ret pe_bl)) pss_nil)))
  (pss_one (ps_ret pe_bl))))), ?_⟩
    try simp only [nxK, cxK]
    walk_at "rd"
    refine ⟨v, r, n, rfl, hv, ?_⟩
    walk_at "rd"
    cases hN : letN r n with
    | false =>
      rw [letK_none hN] at k
      refine iteT ?_
      walk_at "rd"
      exact k
    | true =>
      obtain ⟨m, ls, rfl⟩ : ∃ m ls, r = some (m, ls) := by
        cases r with
        | none => cases hN
        | some p => exact ⟨p.1, p.2, rfl⟩
      rw [letK_some hN] at k
      refine iteF ?_
      walk_at "rd"
      refine ⟨a, rfl, ⟨_, ha⟩, forJ (walk_tup (xs := ks.map V.int)) ⟨fun i σ H' => ∃ (v3 : Option V), σ = [some v, some (.int n), some (.ref a), v3] ∧ H' = H ∧ ∀ (j : Nat) (x : Int), j < i → ks[j]? = some x → x ∈ ls, ?_, fun i σ H' _ h => ?_, ?_, ?_⟩⟩
      · exact ⟨none, rfl, rfl, fun j x h => absurd h (Nat.not_lt_zero _)⟩
      · obtain ⟨_, _, rfl, _⟩ := h
        exact ha
      · rintro i x σ H3 H4 hi ⟨v3, rfl, rfl, hall⟩ ⟨rfl, hx⟩
        obtain ⟨y, hy, rfl⟩ := map_get hx
        walk_at "rd"
        refine r_tL hv fun la hla => ?_
        walk_at "rd"
        refine ifnd (fun e => ?_) (fun e => ?_)
        · walk_at "rd"
          have e2 : (ks.all fun k => decide (k ∈ ls)) = false := by
            rw [List.all_eq_false]
            exact ⟨y, List.mem_of_getElem? hy, by rw [decide_eq_false e]; decide⟩
          rw [e2] at k
          exact k
        · walk_at "rd"
          refine ⟨_, rfl, rfl, fun j x hj hx2 => ?_⟩
          by_cases hji : j = i
          · subst hji
            rw [hy] at hx2
            cases hx2
            exact e
          · exact hall j x (by omega) hx2
      · rintro σ H3 ⟨v3, rfl, rfl, hall⟩
        rw [List.length_map] at hall
        walk_at "rd"
        have e2 : (ks.all fun k => decide (k ∈ ls)) = true := by
          rw [List.all_eq_true]
          intro x hx
          obtain ⟨j, hj, rfl⟩ := List.mem_iff_getElem.mp hx
          exact decide_eq_true (hall j _ hj (List.getElem?_eq_getElem hj))
        rw [e2] at k
        exact k
end

section
variable {K : PySem.W.Frag} {D : Ends} {σ : L2.St} {H : Hp} {td : TE} {t : TS}
theorem r_items {R : It → Hp → Prop} (h : td σ H fun x H1 => ∃ d o kvs, x = V.ref d ∧ H1 d = some (.frz o (.dK kvs)) ∧ R (Iti d o kvs) H1) : iItems td σ H R := h
end
section
variable {P : Program} {w : World} {K : PySem.W.Frag} {mg : Str → Option Value} {base : Heap}
def KindAt (T : Tx K mg) (H : Hp) (a : Addr) (roots : List Int) (es : List (Int × Pr)) : Prop := ∃ dx ra da kvs, H a = some (.ins T.Kind.C dx [("first_labels", .ref ra), ("label_rules", .ref da)]) ∧ SqT K H ra (roots.map V.int) ∧ H da = some (.dK kvs) ∧ KvD K H kvs es
theorem KindAt.up {T : Tx K mg} {H H' : Hp} {a : Addr} {roots : List Int} {es : List (Int × Pr)} (h : KindAt T H a roots es) (s : Same H H') : KindAt T H' a roots es :=
  let ⟨dx, ra, da, kvs, h1, h2, h3, h4⟩ := h
  ⟨dx, ra, da, kvs, s _ _ h1, sm_tp s h2, s _ _ h3, h4.up s⟩
def GoodEs (es : List (Int × Pr)) : Prop := es.Pairwise (fun a b => a.1 < b.1) ∧ ∀ e ∈ es, (1 ≤ e.1 ∧ e.1 ≤ 9) ∧ GoodR (some e.2)
theorem lookup_take : ∀ {es : List (Int × Pr)} {i : Nat} {e : Int × Pr}, es.Pairwise (fun a b => a.1 < b.1) → es[i]? = some e → (es.take i).lookup e.1 = none
  | [], i, e, _, h => by simp at h
  | a :: r, 0, e, _, h => rfl
  | a :: r, i + 1, e, hp, h => by
    have h' : r[i]? = some e := by simpa using h
    obtain ⟨q1, q2⟩ := List.pairwise_cons.mp hp
    have ne := q1 e (List.mem_of_getElem? h')
    rw [List.take_succ_cons, List.lookup_cons]
    have : (e.1 == a.1) = false := by
      rw [beq_eq_false_iff_ne]
      omega
    rw [this]
    exact lookup_take q2 h'
theorem KvD.get {K : PySem.W.Frag} {G : Hp} : ∀ {kvs : List (Key × V)} {es : List (Int × Pr)} {i : Nat} {k : Key} {v : V}, KvD K G kvs es → kvs[i]? = some (k, v) → ∃ e : Int × Pr, es[i]? = some e ∧ k = Sum.inl e.1 ∧ Dp K G v (dTR e.2)
  | _, _, _, _, _, .nil, h => by simp at h
  | _, _, 0, k, v, @KvD.cons _ _ a v' p kvs es hd _, h => by
    have h' : ((Sum.inl a : Key), v') = (k, v) := by simpa using h
    cases h'
    exact ⟨(a, p), rfl, rfl, hd⟩
  | _, _, i + 1, k, v, .cons _ t, h => by
    obtain ⟨e, h1, h2, h3⟩ := t.get (i := i) (by simpa using h)
    exact ⟨e, by simpa using h1, h2, h3⟩
def sp_Kindinit (T : Tx K mg) : Sp := fun vs H Q _ => ∃ (x dx ra ga : Addr) (roots : List Int) (kvs : List (Key × V)) (es : List (Int × Pr)) (G : Hp), vs = [.ref x, .ref ra, .ref ga] ∧ H x = some (.ins T.Kind.C dx []) ∧ Same G H ∧ G x = none ∧ G ga = none ∧ SqT K G ra (roots.map V.int) ∧ AscB 1 10 roots ∧
  H ga = some (.dK kvs) ∧ KvD K G kvs es ∧ GoodEs es ∧ es.length ≤ 100 ∧ ∀ H' : Hp, But x H H' → KindAt T (wo H' ga) x roots es → Q .non H'
theorem ok_Kindinit (T : Tx K mg) : FnOk P w K mg base CX0 2 T.d_Kindinit.a T.d_Kindinit.fd P_Kindinit (sp_Kindinit T) := by
  refine T.d_Kindinit.F.ok sc_Kindinit (fun vs H Q E h => ?_) (fun cdv A outer s H vs Q E hr h => ?_)
  · obtain ⟨_, _, _, _, _, _, _, _, rfl, _⟩ := h
    rfl
  · obtain ⟨x, dx, ra, ga, roots, kvs, es, G, rfl, hx, sG, gx, gga, hra, hasc, hga, hkv, hgood, hel, k⟩ := h
    refine ⟨_, ((pss_cons (ps_if (pt_not (pt_val (pe_call (ok_ascending_between T) (hr.mono (by decide)) rfl T.d_ascending_between.g T.d_ascending_between.F.kp T.d_ascending_between.b .nil pass0 (pa_cons (pv 1) (pa_cons pe_int (pa_cons pe_int pa_nil)))))) 
    (pss_one ps_never) pss_nil)
  (pss_cons (ps_set (i := 3) sc_Kindinit.nd rfl (by first | exact Or.inl rfl | exact Or.inr rfl) pe_dnewK)
  (pss_cons (ps_lock (ps_for PassesOwn.never rfl (pi_items (pv 2)) (pg_tup (by rfl) (pgs_cons (pg_name (i := 4) sc_Kindinit.nd rfl (by first | exact Or.inl rfl | exact Or.inr rfl)) (pgs_cons (pg_tup (by rfl) (pgs_cons (pg_name (i := 5) sc_Kindinit.nd rfl (by first | exact Or.inl rfl | exact Or.inr rfl)) (pgs_cons (pg_name (i := 6) sc_Kindinit.nd rfl (by first | exact Or.inl rfl | exact Or.inr rfl)) pgs_nil))) pgs_nil))) 
    (pss_cons (ps_if (PW.pt (pw_or (pt_not (pt_chain op_le op_le pe_int (pv 4) pe_int)) (pw_or1 (pt_not (pt_val (pe_call (ok_ascending_between T) (hr.mono (by decide)) rfl T.d_ascending_between.g T.d_ascending_between.F.kp T.d_ascending_between.b .nil pass0 (pa_cons (pv 6) (pa_cons pe_int (pa_cons pe_int pa_nil))))))))) 
      (pss_one ps_never) pss_nil)
    (pss_cons (ps_if (PW.pt (pw_and (pt_cmpR k_notN (pv 5) pe_non (nomark _)) (pw_and1 (pt_not (pt_val (pe_call (ok_ascending_between T) (hr.mono (by decide)) rfl T.d_ascending_between.g T.d_ascending_between.F.kp T.d_ascending_between.b .nil pass0 (pa_cons (pv 5) (pa_cons pe_int (pa_cons (pe_glob (v := .int (40)) rfl T.c_MOST_KIDS ⟨_, rfl⟩) pa_nil))))))))) 
      (pss_one ps_never) pss_nil)
    (pss_one (ps_dput (hu_of hr) (pv 3) (pv 4) (pe_tup (pa_cons (pv 5) (pa_cons (pv 6) pa_nil))) rfl))))))
  (pss_cons (ps_fld (pv 0) (pv 1) rfl)
  (pss_one (ps_fld (pv 0) (pv 3) rfl))))))), ?_⟩
    try simp only [nxK, cxK]
    have cT := T.Kind.cl
    have n1 := T.n_Kind_first_labels
    have n2 := T.n_Kind_label_rules
    have nxg : x ≠ ga := ne_of hx hga (by intro z; cases z)
    have hraH := sm_tp sG hra
    walk_at "rd"
    refine ⟨ra, 1, 9, roots, rfl, hraH, hasc, ?_⟩
    walk_at "rd"
    refine iteF ?_
    walk_at "rd"
    intro ka hka
    have nkx : ka ≠ x := ne_fr hx hka
    have nkg : ka ≠ ga := ne_fr hga hka
    have gka : G ka = none := sG.free hka
    walk_at "rd"
    refine ⟨ga, .dK kvs, (upd_ne nkg.symm).trans hga, trivial, fun od => ?_⟩
    walk_at "rd"
    refine r_items ?_
    walk_at "rd"
    refine ⟨ga, od, kvs, rfl, upd_same, forJ walk_items ⟨fun i σ H' => ∃ (kvs' : List (Key × V)) (v4 v5 v6 : Option V), σ = [some (.ref x), some (.ref ra), some (.ref ga), some (.ref ka), v4, v5, v6] ∧ Same G H' ∧ But ga H H' ∧ H' ga = some (.frz od (.dK kvs)) ∧ H' ka = some (.dK kvs') ∧ KvD K (wo (wo (wo H' ka) ga) x) kvs' (es.take i), ?_, fun i σ H' _ h => ?_, ?_, ?_⟩⟩
    · exact ⟨[], none, none, none, rfl, sm_mut (sG.trans (sm_up hka)) gga, (But.same (sm_up hka)).set, upd_same, (upd_ne nkg).trans upd_same, .nil⟩
    · obtain ⟨_, _, _, _, _, _, _, h, _⟩ := h
      exact h
    · rintro i x1 σ H3 H4 hi ⟨kvs', v4, v5, v6, rfl, g3, b3, hg3, hk3, hkv3⟩ ⟨tp, y1, y2, rfl, htp, rfl, e1, e2⟩
      obtain ⟨kk, vv, ekv⟩ : ∃ kk vv, kvs[i]? = some (kk, vv) := ⟨kvs[i].1, kvs[i].2, List.getElem?_eq_getElem hi⟩
      have e1 : Option.map (fun kv : Key × V => kV kv.1) kvs[i]? = some y1 := e1
      have e2 : Option.map Prod.snd kvs[i]? = some y2 := e2
      rw [ekv] at e1 e2
      obtain rfl : kV kk = y1 := Option.some.inj e1
      obtain rfl : vv = y2 := Option.some.inj e2
      obtain ⟨e, he, rfl, hde⟩ := hkv.get ekv
      obtain ⟨⟨el1, el2⟩, hgr⟩ := hgood.2 e (List.mem_of_getElem? he)
      obtain ⟨lab, m, ls⟩ := e
      obtain ⟨tv, us, rfl, htv, hus⟩ := dp_tup' (show Dp K G vv (.tuple [dTM m, dTI ls]) from hde)
      cases hus with
      | cons hum hus2 =>
        rename_i um us2
        cases hus2 with
        | cons hlb hus3 =>
          cases hus3
          obtain ⟨lb, rfl, hlbG⟩ := dp_tints' hlb
          have g4 : Same G (upd H3 tp (.tup [kV (Sum.inl lab), V.ref tv])) := g3.trans (sm_up htp)
          have htp4 : SqT K (upd H3 tp (.tup [kV (Sum.inl lab), V.ref tv])) tp [.int lab, .ref tv] := SqT.of upd_same
          have b4 : But ga H (upd H3 tp (.tup [kV (Sum.inl lab), V.ref tv])) := b3.up htp
          have ntg : tp ≠ ga := ne_fr hg3 htp
          have ntk : tp ≠ ka := ne_fr hk3 htp
          have hx3 : H3 x = some (.ins T.Kind.C dx []) := hbut b3 nxg hx
          have ntx : tp ≠ x := ne_fr hx3 htp
          have hg4 : (upd H3 tp (.tup [kV (Sum.inl lab), V.ref tv])) ga = some (.frz od (.dK kvs)) := (upd_ne ntg.symm).trans hg3
          have hk4 : (upd H3 tp (.tup [kV (Sum.inl lab), V.ref tv])) ka = some (.dK kvs') := (upd_ne ntk.symm).trans hk3
          have hkv4 := hkv3.up (wo_mono (p := x) (wo_mono (p := ga) (wo_mono (p := ka) (sm_up (o := HO.tup [kV (Sum.inl lab), V.ref tv]) htp))))
          generalize upd H3 tp (.tup [kV (Sum.inl lab), V.ref tv]) = H5 at *
          have htv5 : SqT K H5 tv [um, .ref lb] := sm_tp g4 htv
          have hlb5 : SqT K H5 lb (ls.map V.int) := sm_tp g4 hlbG
          walk_at "rd"
          refine ifd (fun _ => ?_) (fun z => absurd el1 z)
          walk_at "rd"
          refine ifnd (fun z => absurd el2 z) (fun _ => ?_)
          walk_at "rd"
          refine ⟨lb, 1, 9, ls, rfl, hlb5, hgr.2, ?_⟩
          walk_at "rd"
          refine iteF ?_
          walk_at "rd"
          rw [dTM_none hum]
          have hkl : kvs'.length < sizeLine := by
            have z := hkv4.len
            rw [List.length_take] at z
            exact szlt (by omega)
          have hnew : valV kvs' (Sum.inl lab : Key) = none := by
            have z := hkv4.val lab
            rw [lookup_take hgood.1 he] at z
            exact z
          have fin : ∀ q, H5 q = none → KvD K (wo (wo (wo (upd (upd H5 q (.tup [um, .ref lb])) ka (.dK (putK kvs' (Sum.inl lab) (.ref q)))) ka) ga) x) (putK kvs' (Sum.inl lab) (.ref q)) (es.take (i + 1)) := fun q hq => by
            have hx5 : H5 x = some (.ins T.Kind.C dx []) := hbut b4 nxg hx
            have q1 : q ≠ ka := ne_fr hk4 hq
            have q2 : q ≠ ga := ne_fr hg4 hq
            have q3 : q ≠ x := ne_fr hx5 hq
            rw [wo_upd, putK_new _ hnew, List.take_add_one, he]
            have sW : Same G (wo (wo (wo (upd H5 q (.tup [um, .ref lb])) ka) ga) x) := sm_wo2 (sm_wo2 (sm_wo2 (g4.trans (sm_up hq)) gka) gga) gx
            refine (hkv4.up (wo_mono (wo_mono (wo_mono (sm_up hq))))).snoc (.tup (SqT.of ((wo_ne q3).trans ((wo_ne q2).trans ((wo_ne q1).trans upd_same)))) (.cons (dp_up sW hum) (.cons (dp_tints (sm_tp sW hlbG)) .nil)))
          have gend : ∀ q, H5 q = none → Same G (upd (upd H5 q (.tup [um, .ref lb])) ka (.dK (putK kvs' (Sum.inl lab) (.ref q)))) ∧ But ga H (upd (upd H5 q (.tup [um, .ref lb])) ka (.dK (putK kvs' (Sum.inl lab) (.ref q)))) ∧ (upd (upd H5 q (.tup [um, .ref lb])) ka (.dK (putK kvs' (Sum.inl lab) (.ref q)))) ga = some (.frz od (.dK kvs)) := fun q hq => by
            have q2 : q ≠ ga := ne_fr hg4 hq
            refine ⟨sm_mut (g4.trans (sm_up hq)) gka, fun b o nb e => ?_, (upd_ne nkg.symm).trans ((upd_ne q2.symm).trans hg4)⟩
            rw [upd_ne (ne_of_none e hka)]
            exact sm_up hq _ _ (b4 b o nb e)
          cases m with
          | none =>
            obtain rfl : um = .non := by cases hum; rfl
            refine iteF ?_
            refine iteF ?_
            walk_at "rd"
            intro q hq
            have q1 : q ≠ ka := ne_fr hk4 hq
            walk_at "rd"
            obtain ⟨f1, f2, f3⟩ := gend q hq
            exact ⟨ka, _, rfl, DPut.k (k := Sum.inl lab) ((upd_ne q1.symm).trans hk4) hkl, _, _, _, _, rfl, f1, f2, f3, upd_same, fin q hq⟩
          | some ms =>
            obtain ⟨ma, rfl, hma⟩ := dp_tints' (show Dp K G um (dTI ms) from hum)
            have hma5 : SqT K H5 ma (ms.map V.int) := sm_tp g4 hma
            refine iteT ?_
            walk_at "rd"
            refine ⟨ma, 0, 40, ms, rfl, hma5, hgr.1 ms rfl, ?_⟩
            walk_at "rd"
            refine iteF ?_
            walk_at "rd"
            intro q hq
            have q1 : q ≠ ka := ne_fr hk4 hq
            walk_at "rd"
            obtain ⟨f1, f2, f3⟩ := gend q hq
            exact ⟨ka, _, rfl, DPut.k (k := Sum.inl lab) ((upd_ne q1.symm).trans hk4) hkl, _, _, _, _, rfl, f1, f2, f3, upd_same, fin q hq⟩
    · rintro σ H3 ⟨kvs', v4, v5, v6, rfl, g3, b3, hg3, hk3, hkv3⟩
      refine ⟨hg3, ?_⟩
      have hx3 : (upd H3 ga (.dK kvs)) x = some (.ins T.Kind.C dx []) := (upd_ne nxg).trans (hbut b3 nxg hx)
      have hkl2 : es.take kvs.length = es := by rw [hkv.len, List.take_length]
      rw [hkl2] at hkv3
      walk_at "rd"
      refine k _ ?_ ⟨dx, ra, ka, kvs', (wo_ne nxg).trans upd_same, ?_, ?_, hkv3.up ?_⟩
      · intro b o nb e
        rw [upd_ne nb, upd_ne nb]
        by_cases hb : b = ga
        · rw [hb, upd_same, ← e, hb, hga]
        · rw [upd_ne hb]
          exact b3 b o hb e
      · refine sm_tp (sm_wo2 (sm_mut (sm_mut ?_ gx) gx) gga) hra
        exact sm_mut g3 gga
      · rw [wo_ne nkg, upd_ne nkx, upd_ne nkx, upd_ne nkg]
        exact hk3
      · intro b o e
        have q3 : b ≠ x := fun z => by
          rw [z, wo_at] at e
          cases e
        rw [wo_ne q3] at e
        have q2 : b ≠ ga := fun z => by
          rw [z, wo_at] at e
          cases e
        rw [wo_ne q2] at e
        have q1 : b ≠ ka := fun z => by
          rw [z, wo_at] at e
          cases e
        rw [wo_ne q1] at e
        rw [wo_ne q2, upd_ne q3, upd_ne q3, upd_ne q2]
        exact e
def sp_Kind_roots (T : Tx K mg) : Sp := fun vs H Q _ => ∃ (a : Addr) (roots : List Int) (es : List (Int × Pr)), vs = [.ref a] ∧ KindAt T H a roots es ∧ ∀ r, SqT K H r (roots.map V.int) → Q (.ref r) H
theorem ok_Kind_roots (T : Tx K mg) : FnOk P w K mg base CX0 1 T.d_Kind_roots.a T.d_Kind_roots.fd P_Kind_roots (sp_Kind_roots T) := by
  refine T.d_Kind_roots.F.ok sc_Kind_roots (fun vs H Q E h => ?_) (fun cdv A outer s H vs Q E hr h => ?_)
  · obtain ⟨_, _, _, rfl, _⟩ := h
    rfl
  · obtain ⟨a, roots, es, rfl, ⟨dx, ra, da, kvs, h1, h2, h3, h4⟩, k⟩ := h
    refine ⟨_, ((pss_one (ps_ret (pe_fld (pv 0) rfl)))), ?_⟩
    try simp only [nxK, cxK]
    have cT := T.Kind.cl
    have n1 := T.n_Kind_first_labels
    walk_at "rd"
    exact k ra h2
def sp_Kind_rule (T : Tx K mg) : Sp := fun vs H Q _ => ∃ (a : Addr) (roots : List Int) (es : List (Int × Pr)) (n : Int), vs = [.ref a, .int n] ∧ KindAt T H a roots es ∧ ∀ v, Dp K H v (dTRo (es.lookup n)) → Q v H
theorem ok_Kind_rule (T : Tx K mg) : FnOk P w K mg base CX0 1 T.d_Kind_rule.a T.d_Kind_rule.fd P_Kind_rule (sp_Kind_rule T) := by
  refine T.d_Kind_rule.F.ok sc_Kind_rule (fun vs H Q E h => ?_) (fun cdv A outer s H vs Q E hr h => ?_)
  · obtain ⟨_, _, _, _, rfl, _⟩ := h
    rfl
  · obtain ⟨a, roots, es, n, rfl, ⟨dx, ra, da, kvs, h1, h2, h3, h4⟩, k⟩ := h
    refine ⟨_, ((pss_one (ps_ret (pe_dget1 (hu_of hr) (pe_fld (pv 0) rfl) (pv 1) ⟨rfl, rfl, rfl, rfl⟩)))), ?_⟩
    try simp only [nxK, cxK]
    have cT := T.Kind.cl
    have n1 := T.n_Kind_label_rules
    walk_at "rd"
    refine ⟨da, rfl, .inl ⟨kvs, .inl h3⟩, ?_⟩
    walk_at "rd"
    refine ⟨_, DGet.k (k := Sum.inl n) h3, ?_⟩
    have z := h4.val n
    cases hl : es.lookup n with
    | none =>
      rw [hl] at z k
      rw [show valV kvs (Sum.inl n : Key) = none from z]
      exact k _ .non
    | some p =>
      rw [hl] at z k
      obtain ⟨v, z1, z2⟩ := z
      rw [z1]
      exact k _ z2
end

def brkE (es : List (Int × Pr)) (ps : List (Int × Int)) (v : Nat) : Bool := !lets (es.lookup (labA ps v)) (kLab ps (v : Nat))
def brkK (es : List (Int × Pr)) (ps : List (Int × Int)) (n : Nat) : List Int := iN ((List.range n).filter (brkE es ps))
def brkKR (roots : List Int) (es : List (Int × Pr)) (ps : List (Int × Int)) : List Int := iN ((List.range ps.length).filter fun v => (decide (v = 0) && !decide (labA ps v ∈ roots)) || brkE es ps v)
theorem brkK_step (es : List (Int × Pr)) (ps : List (Int × Int)) (i : Nat) : brkK es ps (i + 1) = brkK es ps i ++ if brkE es ps i = true then [(i : Int)] else [] := by
  unfold brkK
  rw [range_filter_snoc]
  by_cases h : brkE es ps i = true
  · rw [if_pos h, if_pos h, iN_snoc]
  · rw [if_neg h, if_neg h, List.append_nil, List.append_nil]
theorem brkK_len (es : List (Int × Pr)) (ps : List (Int × Int)) (i : Nat) : (brkK es ps i).length ≤ i := by
  unfold brkK
  rw [iN_len]
  have := List.length_filter_le (brkE es ps) (List.range i)
  rw [List.length_range] at this
  exact this
theorem brkKR_eq (roots : List Int) (es : List (Int × Pr)) (ps : List (Int × Int)) (hn : 0 < ps.length) : brkKR roots es ps = (if labA ps 0 ∉ roots ∧ (0 : Int) ∉ brkK es ps ps.length then [0] else []) ++ brkK es ps ps.length := by
  obtain ⟨n, hn⟩ : ∃ n, ps.length = n + 1 := ⟨ps.length - 1, by omega⟩
  unfold brkKR brkK
  rw [hn, List.range_succ_eq_map, List.filter_cons, List.filter_cons, List.filter_map, List.filter_map]
  have e1 : ((fun v => (decide (v = 0) && !decide (labA ps v ∈ roots)) || brkE es ps v) ∘ Nat.succ) = (brkE es ps ∘ Nat.succ) := by
    funext v
    simp
  rw [e1]
  have h0 : ∀ l : List Nat, (0 : Int) ∉ iN (l.map Nat.succ) := fun l h => by
    unfold iN at h
    rw [List.mem_map] at h
    obtain ⟨k, hk, e⟩ := h
    obtain ⟨j, _, rfl⟩ := List.mem_map.mp hk
    have : ((j.succ : Nat) : Int) = 0 := e
    omega
  by_cases hb : brkE es ps 0 = true
  · rw [if_pos (by rw [hb, Bool.or_true]), if_pos hb, if_neg]
    · rfl
    · rintro ⟨-, q⟩
      exact q (by unfold iN; simp)
  · have hb' : brkE es ps 0 = false := by simpa using hb
    rw [if_neg hb]
    by_cases hr : labA ps 0 ∈ roots
    · rw [if_neg (by rw [hb', decide_eq_true hr]; decide), if_neg (fun q => q.1 hr)]
      rfl
    · rw [if_pos (by rw [decide_eq_false hr]; rfl), if_pos ⟨hr, h0 _⟩]
      rfl
section
variable {P : Program} {w : World} {K : PySem.W.Frag} {mg : Str → Option Value} {base : Heap}
def sp_broken_rules (T : Tx K mg) : Sp := fun vs H Q _ => ∃ (k t : Addr) (roots : List Int) (es : List (Int × Pr)) (ps : List (Int × Int)), vs = [.ref k, .ref t] ∧ KindAt T H k roots es ∧ TreeAt T H t ps ∧ ps.length ≤ 1000 ∧ ∀ (l : Addr) (H' : Hp), Same H H' → H l = none → H' l = some (iLs (brkK es ps ps.length)) → Q (.ref l) H'
theorem ok_broken_rules (T : Tx K mg) : FnOk P w K mg base CX0 3 T.d_broken_rules.a T.d_broken_rules.fd P_broken_rules (sp_broken_rules T) := by
  refine T.d_broken_rules.F.ok sc_broken_rules (fun vs H Q E h => ?_) (fun cdv A outer s H vs Q E hr h => ?_)
  · obtain ⟨_, _, _, _, _, rfl, _⟩ := h
    rfl
  · obtain ⟨k, t, roots, es, ps, rfl, hk, ht, hl, kk⟩ := h
    refine ⟨_, ((pss_cons (ps_set (i := 2) sc_broken_rules.nd rfl (by first | exact Or.inl rfl | exact Or.inr rfl) (pe_lst pa_nil))
  (pss_cons (ps_for PassesOwn.never rfl (pi_range1 rfl T.b_range (pa_cons (pe_prop (pv 1) T.Tree.cl T.p_Tree_nodes (ok_Tree_nodes T) (hr.mono (by decide)) T.d_Tree_nodes.b .nil pass0 rfl) pa_nil)) (pg_name (i := 3) sc_broken_rules.nd rfl (by first | exact Or.inl rfl | exact Or.inr rfl)) 
    (pss_cons (ps_setLc (i := 5) (own := [("kid", 4)]) (g := gName 4) rfl sc_broken_rules.nd rfl rfl (sw_true rfl rfl rfl (by decide +kernel)) (pi_list (pe_meth (pv 1) T.Tree.cl T.m_Tree_kids_of (ok_Tree_kids_of T) (hr.mono (by decide)) T.d_Tree_kids_of.b .nil pass0 (pa_cons (pv 3) pa_nil))) (blkOk_by (own := [("kid", 4)]) (N := N_broken_rules) (sc := defScope s_broken_rules) (by decide +kernel)) (fun _ _ _ _ _ => (pg_name (i := 4) sc_broken_rules.nd rfl (by first | exact Or.inl rfl | exact Or.inr rfl))) (fun _ _ _ _ _ => pts_nil) (fun _ _ _ _ _ => (pe_meth (pv 1) T.Tree.cl T.m_Tree_label_of (ok_Tree_label_of T) (hr.mono (by decide)) T.d_Tree_label_of.b .nil pass0 (pa_cons (pv 4) pa_nil))))
    (pss_one (ps_if (pt_not (pt_val (pe_call (ok_lets_kids T) (hr.mono (by decide)) rfl T.d_lets_kids.g T.d_lets_kids.F.kp T.d_lets_kids.b .nil pass0 (pa_cons (pe_meth (pv 0) T.Kind.cl T.m_Kind_rule (ok_Kind_rule T) (hr.mono (by decide)) T.d_Kind_rule.b .nil pass0 (pa_cons (pe_meth (pv 1) T.Tree.cl T.m_Tree_label_of (ok_Tree_label_of T) (hr.mono (by decide)) T.d_Tree_label_of.b .nil pass0 (pa_cons (pv 3) pa_nil)) pa_nil)) (pa_cons (pe_callB (r := cLen K) k_len (by rfl) T.b_len (by decide +kernel) (pa_cons (pv 5) pa_nil)) (pa_cons (pv 5) pa_nil)))))) 
      (pss_one (ps_expr (pe_bm PySem.F.plainAttrs_list PySem.F.slot_list_append PySem.F.type_list_append mt_append (pv 2) (pa_cons (pv 3) pa_nil)))) pss_nil))))
  (pss_one (ps_ret (pv 2)))))), ?_⟩
    try simp only [nxK, cxK]
    obtain ⟨_, _, _, _, k1, -⟩ := id hk
    obtain ⟨_, _, _, _, t1, -⟩ := id ht
    walk_at "rd"
    intro fo hfo
    have ht2 := ht.up (sm_up (o := HO.lst []) hfo)
    walk_at "rd"
    refine ⟨t, ps, rfl, ht2, ?_⟩
    refine ⟨_, rfl, by omega, by omega, forJ walkR ⟨fun i σ H' => ∃ (v3 v4 v5 : Option V), σ = [some (.ref k), some (.ref t), some (.ref fo), v3, v4, v5] ∧ Same H H' ∧ H' fo = some (iLs (brkK es ps i)), ?_, fun _ _ _ _ _ => trivial, ?_, ?_⟩⟩
    · exact ⟨none, none, none, rfl, sm_up hfo, upd_same⟩
    · rintro i x σ H3 H4 hi ⟨v3, v4, v5, rfl, s4, hf4⟩ ⟨rfl, rfl⟩
      have hi' : i < ps.length := by omega
      have k14 := s4 _ _ k1
      have t14 := s4 _ _ t1
      have ht4 := ht.up s4
      have blen := brkK_len es ps i
      walk_at "rd"
      refine ⟨t, ps, (i : Int), rfl, ht4, by omega, by omega, fun kl H5 s5 hkl hkl5 => ?_⟩
      have hkq : SqL K H5 kl ((iN (kidN ps (i : Nat))).map V.int) := SqL.of hkl5
      walk_at "rd"
      refine ⟨kl, rfl, ⟨_, hkq⟩, lcJ (walk_list (xs := (iN (kidN ps (i : Nat))).map V.int)) (fun H' s => s.seq hkq) ⟨by rw [List.length_map, iN_len]; have := kidN_le ps (i : Nat); omega, fun D hD => ⟨fun j acc _ => acc = ((kLab ps (i : Nat)).take j).map V.int, rfl, ?_, ?_⟩⟩⟩
      · rintro j x acc H6 H7 hj ⟨rfl, hxj⟩ s6 hD6 hl6 rfl
        obtain ⟨n, hn, rfl⟩ := map_get hxj
        obtain ⟨kc, hkc, rfl⟩ := map_get hn
        have hkl2 := kidN_lt (List.mem_of_getElem? hkc)
        have t16 := (s5.trans s6) _ _ t14
        walk_at "rd"
        refine iteT ?_
        walk_at "rd"
        refine ⟨t, ps, (kc : Int), rfl, ht4.up (s5.trans s6), by omega, by omega, ?_⟩
        rw [Int.toNat_natCast]
        refine lcIn s6 hD hD6 hl6 (by have := kidN_le ps (i : Nat); rw [List.length_map, iN_len] at hj; omega) ?_
        rw [List.take_add_one, show (kLab ps (i : Nat))[j]? = some (labA ps kc) from by unfold kLab; rw [List.getElem?_map, hkc]; rfl, List.map_append]
        rfl
      · rintro acc H6 s6 hD6 hl6 rfl
        have etk : (kLab ps (i : Nat)).take ((iN (kidN ps (i : Nat))).map V.int).length = kLab ps (i : Nat) := by rw [List.length_map, iN_len, ← kLab_len, List.take_length]
        rw [etk] at hD6
        have s46 : Same H4 H6 := s5.trans s6
        have k16 := s46 _ _ k14
        have t16 := s46 _ _ t14
        have hf6 : H6 fo = some (.lst ((brkK es ps i).map V.int)) := s46 _ _ hf4
        have hDq : SqL K H6 D ((kLab ps (i : Nat)).map V.int) := SqL.of hD6
        walk_at "rd"
        refine ⟨t, ps, (i : Int), rfl, ht4.up s46, by omega, by omega, ?_⟩
        rw [Int.toNat_natCast]
        refine ⟨k, roots, es, labA ps i, rfl, hk.up (s4.trans s46), fun rv hrv => ?_⟩
        walk_at "rd"
        refine ⟨rv, es.lookup (labA ps i), _, D, kLab ps (i : Nat), rfl, hrv, hDq, ?_⟩
        walk_at "rd"
        rw [List.length_map, ← lets_letK]
        have hb : brkE es ps i = !lets (es.lookup (labA ps i)) (kLab ps (i : Nat)) := rfl
        cases hlt : lets (es.lookup (labA ps i)) (kLab ps (i : Nat)) with
        | true =>
          rw [hlt] at hb
          refine iteF ?_
          walk_at "rd"
          refine ⟨_, _, _, rfl, s4.trans s46, ?_⟩
          rw [brkK_step, hb, if_neg (by decide), List.append_nil]
          exact hf6
        | false =>
          rw [hlt] at hb
          refine iteT ?_
          walk_at "rd"
          refine ⟨_, _, _, rfl, sm_mut (s4.trans s46) hfo, ?_⟩
          rw [brkK_step, hb, if_pos (by rfl : (!false) = true), upd_same, iLs, List.map_append]
          rfl
    · rintro σ H3 ⟨v3, v4, v5, rfl, s3, hf3⟩
      walk_at "rd"
      exact kk fo H3 s3 hfo hf3
def sp_breaking_nodes (T : Tx K mg) : Sp := fun vs H Q _ => ∃ (k t : Addr) (roots : List Int) (es : List (Int × Pr)) (ps : List (Int × Int)), vs = [.ref k, .ref t] ∧ KindAt T H k roots es ∧ TreeAt T H t ps ∧ 1 ≤ ps.length ∧ ps.length ≤ 1000 ∧ ∀ (l : Addr) (H' : Hp), Same H H' → H l = none → H' l = some (iLs (brkKR roots es ps)) → Q (.ref l) H'
theorem ok_breaking_nodes (T : Tx K mg) : FnOk P w K mg base CX0 4 T.d_breaking_nodes.a T.d_breaking_nodes.fd P_breaking_nodes (sp_breaking_nodes T) := by
  refine T.d_breaking_nodes.F.ok sc_breaking_nodes (fun vs H Q E h => ?_) (fun cdv A outer s H vs Q E hr h => ?_)
  · obtain ⟨_, _, _, _, _, rfl, _⟩ := h
    rfl
  · obtain ⟨k, t, roots, es, ps, rfl, hk, ht, hl0, hl, kk⟩ := h
    refine ⟨_, ((pss_cons (ps_set (i := 2) sc_breaking_nodes.nd rfl (by first | exact Or.inl rfl | exact Or.inr rfl) (pe_call (ok_broken_rules T) (hr.mono (by decide)) rfl T.d_broken_rules.g T.d_broken_rules.F.kp T.d_broken_rules.b .nil pass0 (pa_cons (pv 0) (pa_cons (pv 1) pa_nil))))
  (pss_cons (ps_if (PW.pt (pw_and (pt_cmpR (r := rIn K true) op_notIn_seq (pe_meth (pv 1) T.Tree.cl T.m_Tree_label_of (ok_Tree_label_of T) (hr.mono (by decide)) T.d_Tree_label_of.b .nil pass0 (pa_cons pe_int pa_nil)) (pe_prop (pv 0) T.Kind.cl T.p_Kind_roots (ok_Kind_roots T) (hr.mono (by decide)) T.d_Kind_roots.b .nil pass0 rfl) rfl) (pw_and1 (pt_cmpR (r := rIn K true) op_notIn_seq pe_int (pv 2) rfl)))) 
    (pss_one (ps_expr (pe_bm PySem.F.plainAttrs_list PySem.F.slot_list_insert PySem.F.type_list_insert mt_insert (pv 2) (pa_cons pe_int (pa_cons pe_int pa_nil))))) pss_nil)
  (pss_one (ps_ret (pv 2)))))), ?_⟩
    try simp only [nxK, cxK]
    obtain ⟨_, _, _, _, k1, -⟩ := id hk
    obtain ⟨_, _, _, _, t1, -⟩ := id ht
    walk_at "rd"
    refine ⟨k, t, roots, es, ps, rfl, hk, ht, hl, fun fo H1 s1 hfo hf1 => ?_⟩
    have k11 := s1 _ _ k1
    have t11 := s1 _ _ t1
    have heq := brkKR_eq roots es ps hl0
    have blen := brkK_len es ps ps.length
    have hfq : SqL K H1 fo ((brkK es ps ps.length).map V.int) := SqL.of hf1
    walk_at "rd"
    refine ⟨t, ps, 0, rfl, ht.up s1, by decide, by omega, ?_⟩
    walk_at "rd"
    refine ⟨k, roots, es, rfl, hk.up s1, fun r hrt => ?_⟩
    walk_at "rd"
    refine ifnd (fun e => ?_) (fun e => ?_)
    · have e : labA ps 0 ∉ roots := e
      walk_at "rd"
      refine ifnd (fun e2 => ?_) (fun e2 => ?_)
      · walk_at "rd"
        refine ⟨fo, (brkK es ps ps.length).map V.int, 0, .int 0, rfl, rfl, hf1, szlt (by rw [List.length_map]; omega), by decide, by decide, ?_⟩
        walk_at "rd"
        refine kk fo _ (sm_mut s1 hfo) hfo ?_
        rw [upd_same, heq, if_pos ⟨e, e2⟩]
        rfl
      · walk_at "rd"
        refine kk fo _ s1 hfo ?_
        rw [hf1, heq, if_neg (fun q => q.2 e2)]
        rfl
    · have e : labA ps 0 ∈ roots := e
      refine iteF ?_
      walk_at "rd"
      refine kk fo _ s1 hfo ?_
      rw [hf1, heq, if_neg (fun q => q.1 e)]
      rfl
def sp_is_of_kind (T : Tx K mg) : Sp := fun vs H Q _ => ∃ (k t : Addr) (roots : List Int) (es : List (Int × Pr)) (ps : List (Int × Int)), vs = [.ref k, .ref t] ∧ KindAt T H k roots es ∧ TreeAt T H t ps ∧ 1 ≤ ps.length ∧ ps.length ≤ 1000 ∧ ∀ (H' : Hp), Same H H' → Q (.bl (decide (brkKR roots es ps = []))) H'
theorem ok_is_of_kind (T : Tx K mg) : FnOk P w K mg base CX0 5 T.d_is_of_kind.a T.d_is_of_kind.fd P_is_of_kind (sp_is_of_kind T) := by
  refine T.d_is_of_kind.F.ok sc_is_of_kind (fun vs H Q E h => ?_) (fun cdv A outer s H vs Q E hr h => ?_)
  · obtain ⟨_, _, _, _, _, rfl, _⟩ := h
    rfl
  · obtain ⟨k, t, roots, es, ps, rfl, hk, ht, hl0, hl, kk⟩ := h
    refine ⟨_, ((pss_one (ps_ret (pe_cmpR op_eq (pe_callB (r := cLen K) k_len (by rfl) T.b_len (by decide +kernel) (pa_cons (pe_call (ok_breaking_nodes T) (hr.mono (by decide)) rfl T.d_breaking_nodes.g T.d_breaking_nodes.F.kp T.d_breaking_nodes.b .nil pass0 (pa_cons (pv 0) (pa_cons (pv 1) pa_nil))) pa_nil)) pe_int (nomark _))))), ?_⟩
    try simp only [nxK, cxK]
    walk_at "rd"
    refine ⟨k, t, roots, es, ps, rfl, hk, ht, hl0, hl, fun fo H1 s1 hfo hf1 => ?_⟩
    have hfq : SqL K H1 fo ((brkKR roots es ps).map V.int) := SqL.of hf1
    walk_at "rd"
    have z := kk H1 s1
    rw [List.length_map]
    have e : decide (((brkKR roots es ps).length : Int) = 0) = decide (brkKR roots es ps = []) := by
      cases brkKR roots es ps with
      | nil => rfl
      | cons a r => rfl
    rw [e]
    exact z
end

theorem nodup_bound : ∀ (n : Nat) (ks : List Nat), ks.Nodup → (∀ k ∈ ks, k < n) → ks.length ≤ n
  | 0, ks, _, h => by
    cases ks with
    | nil => exact Nat.le_refl _
    | cons k r => exact absurd (h k (List.mem_cons_self ..)) (Nat.not_lt_zero _)
  | n + 1, ks, hn, h => by
    by_cases hm : n ∈ ks
    · have h1 : (ks.erase n).length ≤ n := nodup_bound n _ (hn.erase n) fun k hk => by
        have hk2 := List.mem_of_mem_erase hk
        have := h k hk2
        have ne : k ≠ n := fun z => by
          rw [z] at hk
          exact (hn.not_mem_erase) hk
        omega
      rw [List.length_erase_of_mem hm] at h1
      omega
    · have := nodup_bound n ks hn fun k hk => by
        have h2 := h k hk
        have : k ≠ n := fun z => hm (z ▸ hk)
        omega
      omega
def kvF (ks : List Nat) : List (Key × V) := ks.map fun k : Nat => ((Sum.inl (k : Int) : Key), V.bl true)
theorem kvF_val (k : Nat) : ∀ ks : List Nat, (valV (kvF ks) (Sum.inl (k : Int) : Key)).isSome = decide (k ∈ ks)
  | [] => rfl
  | j :: r => by
    by_cases h : j = k
    · subst h
      rw [show valV (kvF (j :: r)) (Sum.inl (j : Int) : Key) = some (.bl true) from valV_pos rfl]
      simp
    · rw [show valV (kvF (j :: r)) (Sum.inl (k : Int) : Key) = valV (kvF r) (Sum.inl (k : Int)) from valV_neg fun q => h (by
        have q2 : (j : Int) = (k : Int) := Sum.inl.inj q
        omega), kvF_val k r]
      have h2 : ¬ k = j := fun e => h e.symm
      simp [h2]
/-- closed under the parts -/
def Closed (es : List Ent) (ys : List Nat) : Prop := ∀ (i : Nat) (e : Ent), i + 1 ∈ ys → es[i]? = some e → (e.2.1 = 0 ∨ e.2.1 ∈ ys) ∧ (e.2.2 = 0 ∨ e.2.2 ∈ ys)
section
variable {P : Program} {w : World} {K : PySem.W.Frag} {mg : Str → Option Value} {base : Heap}
def sp_parts_below (T : Tx K mg) : Sp := fun vs H Q _ => ∃ (a : Addr) (m : WA) (es : List Ent) (fs : List Fo) (n : Nat), vs = [.ref a, .int (n : Int)] ∧ WebAt T H a m es fs ∧ n < fs.length ∧ es.length ≤ 50000 ∧
  ∀ (l : Addr) (H' : Hp) (ys : List Nat), Same H H' → H l = none → H' l = some (iLs (iN ys)) → ys.Pairwise (· < ·) → (∀ y ∈ ys, 1 ≤ y ∧ y ≤ es.length) → Closed es ys → (n = 0 ∨ n ∈ ys) → Q (.ref l) H'
theorem ok_parts_below (T : Tx K mg) (O : Ox K mg) : FnOk P w K mg base CX0 5 T.d_parts_below.a T.d_parts_below.fd P_parts_below (sp_parts_below T) := by
  refine T.d_parts_below.F.ok sc_parts_below (fun vs H Q E h => ?_) (fun cdv A outer s H vs Q E hr h => ?_)
  · obtain ⟨_, _, _, _, _, rfl, _⟩ := h
    rfl
  · obtain ⟨a, m, es, fs, n, rfl, hw, hn, hes, kk⟩ := h
    refine ⟨_, ((pss_cons (ps_set (i := 2) sc_parts_below.nd rfl (by first | exact Or.inl rfl | exact Or.inr rfl) pe_dnewK)
  (pss_cons (ps_set (i := 3) sc_parts_below.nd rfl (by first | exact Or.inl rfl | exact Or.inr rfl) (pe_lst (pa_cons (pv 1) pa_nil)))
  (pss_cons (ps_while PassesOwn.never (pt_cmpR op_gt (pe_callB (r := cLen K) k_len (by rfl) T.b_len (by decide +kernel) (pa_cons (pv 3) pa_nil)) pe_int (nomark _)) 
    (pss_cons (ps_set (i := 4) sc_parts_below.nd rfl (by first | exact Or.inl rfl | exact Or.inr rfl) (pe_bm0 PySem.F.plainAttrs_list PySem.F.slot_list_pop PySem.F.type_list_pop mt_pop (pv 3)))
    (pss_cons (ps_set (i := 5) sc_parts_below.nd rfl (by first | exact Or.inl rfl | exact Or.inr rfl) (pe_meth (pv 0) T.Web.cl T.m_Web_parts_of (ok_Web_parts_of T O) (hr.mono (by decide)) T.d_Web_parts_of.b .nil passL (pa_cons (pv 4) pa_nil)))
    (pss_one (ps_if (PW.pt (pw_and (pt_cmpR k_notN (pv 5) pe_non (nomark _)) (pw_and1 (pt_cmp (pc_dnotin (hu_of hr) (pv 4) (pv 2)))))) 
      (pss_cons (ps_dput (hu_of hr) (pv 2) (pv 4) pe_bl rfl)
      (pss_cons (ps_expr (pe_bm PySem.F.plainAttrs_list PySem.F.slot_list_append PySem.F.type_list_append mt_append (pv 3) (pa_cons (pe_ix (r := rIxT K) ix_tup (pv 5) pe_int (fun _ _ => rfl)) pa_nil)))
      (pss_one (ps_expr (pe_bm PySem.F.plainAttrs_list PySem.F.slot_list_append PySem.F.type_list_append mt_append (pv 3) (pa_cons (pe_ix (r := rIxT K) ix_tup (pv 5) pe_int (fun _ _ => rfl)) pa_nil)))))) pss_nil)))))
  (pss_one (ps_ret (pe_callB (k_srtD rfl) (by rfl) T.b_sorted (by decide +kernel) (pa_cons (pv 2) pa_nil)))))))), ?_⟩
    try simp only [nxK, cxK]
    obtain ⟨dx, us, h1, -, -, -, -, -, -, h8⟩ := id hw
    have hfl := h8.len
    walk_at "rd"
    intro fa hfa
    walk_at "rd"
    intro wa hwa
    have nwf : wa ≠ fa := ne_fr upd_same hwa
    have ffa : H fa = none := hfa
    have fwa : H wa = none := by walk_at "fr"
    walk_at "rd"
    refine r_while (fun mm σ H' => ∃ (ks W : List Nat) (v4 v5 : Option V), mm = 2 * (es.length - ks.length) + W.length ∧ σ = [some (.ref a), some (.int (n : Int)), some (.ref fa), some (.ref wa), v4, v5] ∧ Same H H' ∧ H' fa = some (.dK (kvF ks)) ∧ H' wa = some (iLs (iN W)) ∧
      ks.Nodup ∧ (∀ k ∈ ks, 1 ≤ k ∧ k ≤ es.length) ∧ (∀ k ∈ W, k ≤ es.length) ∧ (∀ (i : Nat) (e : Ent), i + 1 ∈ ks → es[i]? = some e → (e.2.1 = 0 ∨ e.2.1 ∈ ks ∨ e.2.1 ∈ W) ∧ (e.2.2 = 0 ∨ e.2.2 ∈ ks ∨ e.2.2 ∈ W)) ∧ (n = 0 ∨ n ∈ ks ∨ n ∈ W) ∧ W.length ≤ ks.length + 1) (2 * es.length + 1)
      ⟨[], [n], none, none, rfl, rfl, by walk_at "sm", (upd_ne nwf.symm).trans upd_same, upd_same, .nil, by simp, by simp; omega, by simp, .inr (.inr (by simp)), Nat.le_refl _⟩ ?_
    rintro mm σ H3 ⟨ks, W, v4, v5, rfl, rfl, s3, hf3, hw3, hnd, hk1, hW1, hcl, hnn, hWl⟩
    have hkb : ks.length ≤ es.length := by
      have := nodup_bound (es.length + 1) ks hnd fun k hk => by have := hk1 k hk; omega
      by_cases hq : ks.length = es.length + 1
      · have h0 : 0 :: ks |>.Nodup := List.nodup_cons.mpr ⟨fun z => by have := hk1 0 z; omega, hnd⟩
        have := nodup_bound (es.length + 1) (0 :: ks) h0 fun k hk => by
          rcases List.mem_cons.mp hk with e | e
          · omega
          · have := hk1 k e
            omega
        simp at this
        omega
      · omega
    unfold iLs at hw3
    have hw33 := hw.up s3
    have h13 := s3 _ _ h1
    rcases List.eq_nil_or_concat W with rfl | ⟨W', p, rfl⟩
    · walk_at "rd"
      refine iteF ?_
      walk_at "rd"
      refine r_srtD (ks := iN ks) hf3 (by unfold kvF iN; rw [List.map_map, List.map_map]; rfl) (by rw [iN_len]; omega) fun ys l hperm hpw hl => ?_
      have hmem : ∀ y ∈ ys, ∃ k ∈ ks, y = (k : Int) := fun y hy => by
        have h2 := hperm.mem_iff.mp hy
        unfold iN at h2
        obtain ⟨k, hk, e⟩ := List.mem_map.mp h2
        exact ⟨k, hk, e.symm⟩
      have hys : iN (ys.map Int.toNat) = ys := by
        unfold iN
        rw [List.map_map]
        refine List.map_congr_left (g := id) (fun y hy => ?_) |>.trans (List.map_id _)
        obtain ⟨k, hk, rfl⟩ := hmem y hy
        rfl
      have hin : ∀ k : Nat, k ∈ ks → k ∈ ys.map Int.toNat := fun k hk => by
        have h2 : (k : Int) ∈ ys := hperm.mem_iff.mpr (by unfold iN; exact List.mem_map.mpr ⟨k, hk, rfl⟩)
        exact List.mem_map.mpr ⟨(k : Int), h2, rfl⟩
      have hout : ∀ k : Nat, k ∈ ys.map Int.toNat → k ∈ ks := fun k hk => by
        obtain ⟨y, hy, rfl⟩ := List.mem_map.mp hk
        obtain ⟨j, hj, rfl⟩ := hmem y hy
        exact hj
      have hndi : ys.Nodup := by
        rw [hperm.nodup_iff]
        unfold iN
        exact List.pairwise_map.mpr (hnd.imp fun {a b} h q => h (by omega))
      have hlt : (ys.map Int.toNat).Pairwise (· < ·) := by
        refine List.pairwise_map.mpr ?_
        have h2 := List.Pairwise.and hpw hndi
        refine List.Pairwise.imp_of_mem (fun {a b} ha hb h => ?_) h2
        obtain ⟨j, _, rfl⟩ := hmem a ha
        obtain ⟨k, _, rfl⟩ := hmem b hb
        obtain ⟨q1, q2⟩ := h
        omega
      refine kk l _ (ys.map Int.toNat) (s3.trans (sm_up hl)) (s3.free hl) (by rw [upd_same, hys]; rfl) hlt (fun y hy => hk1 y (hout y hy)) (fun i e hi he => ?_) ?_
      · obtain ⟨q1, q2⟩ := hcl i e (hout _ hi) he
        exact ⟨q1.imp id fun z => hin _ (z.resolve_right (by simp)), q2.imp id fun z => hin _ (z.resolve_right (by simp))⟩
      · exact hnn.imp id fun z => hin _ (z.resolve_right (by simp))
    · rw [List.concat_eq_append] at *
      rw [iN_snoc, List.map_append] at hw3
      walk_at "rd"
      refine ifd (fun _ => ?_) (fun e => absurd (show (0 : Int) < _ from by rw [List.length_append]; simp <;> omega) e)
      refine wh ?_
      walk_at "rd"
      refine r_pop (xs := (iN W').map V.int) (y := .int (p : Int)) hw3 ?_
      have hple : p ≤ es.length := hW1 p (by simp)
      have hw4 : WebAt T (upd H3 wa (.lst ((iN W').map V.int))) a m es fs := by
        refine hw.up (sm_mut s3 fwa)
      have h14 : (upd H3 wa (.lst ((iN W').map V.int))) a = some (.ins T.Web.C dx (fldW m)) := sm_mut s3 fwa _ _ h1
      have hf4 : (upd H3 wa (.lst ((iN W').map V.int))) fa = some (.dK (kvF ks)) := (upd_ne nwf.symm).trans hf3
      have hw4' : (upd H3 wa (.lst ((iN W').map V.int))) wa = some (.lst ((iN W').map V.int)) := upd_same
      have s4 : Same H (upd H3 wa (.lst ((iN W').map V.int))) := sm_mut s3 fwa
      generalize upd H3 wa (.lst ((iN W').map V.int)) = H4 at *
      simp only [List.length_append, List.length_singleton] at hWl
      walk_at "rd"
      refine ⟨a, m, es, fs, p, rfl, hw4, by omega, fun hp0 => ?_, fun i e b hpi hei hb => ?_⟩
      · walk_at "rd"
        refine iteF ?_
        walk_at "rd"
        refine ⟨_, ?_, ks, W', _, _, rfl, rfl, s4, hf4, hw4', hnd, hk1, fun k hk => hW1 k (by simp [hk]), fun i e hi he => ?_, ?_, by omega⟩
        · rw [List.length_append]
          simp
        · obtain ⟨q1, q2⟩ := hcl i e hi he
          have red : ∀ z : Nat, (z = 0 ∨ z ∈ ks ∨ z ∈ W' ++ [p]) → (z = 0 ∨ z ∈ ks ∨ z ∈ W') := fun z h => by
            rcases h with h | h | h
            · exact .inl h
            · exact .inr (.inl h)
            · rcases List.mem_append.mp h with h | h
              · exact .inr (.inr h)
              · exact .inl (by rw [List.mem_singleton.mp h]; exact hp0)
          exact ⟨red _ q1, red _ q2⟩
        · rcases hnn with h | h | h
          · exact .inl h
          · exact .inr (.inl h)
          · rcases List.mem_append.mp h with h | h
            · exact .inr (.inr h)
            · exact .inl (by rw [List.mem_singleton.mp h]; exact hp0)
      · obtain ⟨_, hek, her, -⟩ := h8.hs i e.1 e.2.1 e.2.2 hei
        have hil := (List.getElem?_eq_some_iff.mp hei).1
        have hbT : SqT K H4 b [.int e.1, .int (e.2.1 : Int), .int (e.2.2 : Int)] := SqT.of hb
        walk_at "rd"
        refine iteT ?_
        walk_at "rd"
        refine ⟨fa, _, rfl, DGet.k (k := Sum.inl (p : Int)) hf4, ?_⟩
        walk_at "rd"
        rw [kvF_val]
        refine ifnd (fun hno => ?_) (fun hin => ?_)
        · walk_at "rd"
          have hnv : valV (kvF ks) (Sum.inl (p : Int) : Key) = none := by
            have z := kvF_val p ks
            rw [decide_eq_false hno] at z
            cases hv : valV (kvF ks) (Sum.inl (p : Int) : Key) with
            | none => rfl
            | some v =>
              rw [hv] at z
              cases z
          have ekv : putK (kvF ks) (Sum.inl (p : Int) : Key) (V.bl true) = kvF (ks ++ [p]) := by
            rw [putK_new _ hnv]
            unfold kvF
            rw [List.map_append]
            rfl
          refine ⟨fa, _, rfl, DPut.k (k := Sum.inl (p : Int)) hf4 (by unfold kvF; rw [List.length_map]; exact szlt (by omega)), ?_⟩
          rw [ekv]
          have nbf : b ≠ fa := ne_of hb hf4 (by intro z; cases z)
          have nbw : b ≠ wa := ne_of hb hw4' (by intro z; cases z)
          have hbT5 : SqT K (upd H4 fa (.dK (kvF (ks ++ [p])))) b [.int e.1, .int (e.2.1 : Int), .int (e.2.2 : Int)] := SqT.of ((upd_ne nbf).trans hb)
          have hw5 : (upd H4 fa (.dK (kvF (ks ++ [p])))) wa = some (.lst ((iN W').map V.int)) := (upd_ne nwf).trans hw4'
          have hf5 : (upd H4 fa (.dK (kvF (ks ++ [p])))) fa = some (.dK (kvF (ks ++ [p]))) := upd_same
          have s5 : Same H (upd H4 fa (.dK (kvF (ks ++ [p])))) := sm_mut s4 ffa
          generalize upd H4 fa (.dK (kvF (ks ++ [p]))) = H5 at *
          have lW : (iN W').length ≤ 60000 := by rw [iN_len]; omega
          walk_at "rd"
          refine r_ixT hbT5 (by decide) (by simp) fun v hv => ?_
          obtain rfl := Option.some.inj hv
          walk_at "rd"
          have hbT6 : SqT K (upd H5 wa (.lst ((iN W').map V.int ++ [.int (e.2.1 : Int)]))) b [.int e.1, .int (e.2.1 : Int), .int (e.2.2 : Int)] := by
            rcases hbT5 with (h | ⟨o, h⟩) | h
            · exact .inl (.inl ((upd_ne nbw).trans h))
            · exact .inl (.inr ⟨o, (upd_ne nbw).trans h⟩)
            · exact .inr h
          refine r_ixT hbT6 (by decide) (by simp) fun v hv => ?_
          obtain rfl := Option.some.inj hv
          walk_at "rd"
          have hk2 : ∀ k ∈ ks ++ [p], 1 ≤ k ∧ k ≤ es.length := fun k hk => by
            rcases List.mem_append.mp hk with h | h
            · exact hk1 k h
            · rw [List.mem_singleton.mp h]
              omega
          have hnd2 : (ks ++ [p]).Nodup := List.nodup_append.mpr ⟨hnd, by simp, fun x hx y hy => by
            rw [List.mem_singleton.mp hy]
            exact fun z => hno (z ▸ hx)⟩
          have hkb2 : ks.length + 1 ≤ es.length := by
            have h0 : (0 :: (ks ++ [p])).Nodup := List.nodup_cons.mpr ⟨fun z => by have := hk2 0 z; omega, hnd2⟩
            have := nodup_bound (es.length + 1) (0 :: (ks ++ [p])) h0 fun k hk => by
              rcases List.mem_cons.mp hk with h | h
              · omega
              · have := hk2 k h
                omega
            simp at this
            omega
          refine ⟨_, ?_, ks ++ [p], W' ++ [e.2.1, e.2.2], _, _, rfl, rfl, sm_mut (sm_mut s5 fwa) fwa, (upd_ne nwf.symm).trans ((upd_ne nwf.symm).trans hf5), ?_, hnd2, hk2, fun k hk => ?_, fun i' e' hi he => ?_, ?_, by simp; omega⟩
          · simp only [List.length_append, List.length_cons, List.length_nil]
            omega
          · rw [upd_same]
            unfold iLs iN
            simp
          · rcases List.mem_append.mp hk with h | h
            · exact hW1 k (by simp [h])
            · have h2 : k = e.2.1 ∨ k = e.2.2 := by simpa using h
              rcases h2 with h2 | h2 <;> omega
          · by_cases hpp : i' = i
            · subst hpp
              rw [hei] at he
              cases he
              exact ⟨.inr (.inr (by simp)), .inr (.inr (by simp))⟩
            · have hi2 : i' + 1 ∈ ks := by
                rcases List.mem_append.mp hi with h | h
                · exact h
                · have := List.mem_singleton.mp h
                  omega
              obtain ⟨q1, q2⟩ := hcl i' e' hi2 he
              have red : ∀ z : Nat, (z = 0 ∨ z ∈ ks ∨ z ∈ W' ++ [p]) → (z = 0 ∨ z ∈ ks ++ [p] ∨ z ∈ W' ++ [e.2.1, e.2.2]) := fun z h => by
                rcases h with h | h | h
                · exact .inl h
                · exact .inr (.inl (List.mem_append_left _ h))
                · rcases List.mem_append.mp h with h | h
                  · exact .inr (.inr (List.mem_append_left _ h))
                  · exact .inr (.inl (List.mem_append_right _ h))
              exact ⟨red _ q1, red _ q2⟩
          · rcases hnn with h | h | h
            · exact .inl h
            · exact .inr (.inl (List.mem_append_left _ h))
            · rcases List.mem_append.mp h with h | h
              · exact .inr (.inr (List.mem_append_left _ h))
              · exact .inr (.inl (List.mem_append_right _ h))
        · walk_at "rd"
          refine ⟨_, ?_, ks, W', _, _, rfl, rfl, s4, hf4, hw4', hnd, hk1, fun k hk => hW1 k (by simp [hk]), fun i' e' hi he => ?_, ?_, by omega⟩
          · rw [List.length_append]
            simp
          · obtain ⟨q1, q2⟩ := hcl i' e' hi he
            have red : ∀ z : Nat, (z = 0 ∨ z ∈ ks ∨ z ∈ W' ++ [p]) → (z = 0 ∨ z ∈ ks ∨ z ∈ W') := fun z h => by
              rcases h with h | h | h
              · exact .inl h
              · exact .inr (.inl h)
              · rcases List.mem_append.mp h with h | h
                · exact .inr (.inr h)
                · exact .inr (.inl (by rw [List.mem_singleton.mp h]; exact hin))
            exact ⟨red _ q1, red _ q2⟩
          · rcases hnn with h | h | h
            · exact .inl h
            · exact .inr (.inl h)
            · rcases List.mem_append.mp h with h | h
              · exact .inr (.inr h)
              · exact .inr (.inl (by rw [List.mem_singleton.mp h]; exact hin))
end

/-! ### breaks of a forest, name by name -/
def fitB (es : List (Int × Pr)) : Fo → Bool
  | .nil => false
  | .cons l k _ => lets (es.lookup l) (rlF k)
def brF (es : List (Int × Pr)) : Fo → Nat
  | .nil => 0
  | .cons l k r => brF es k + brF es r + (if lets (es.lookup l) (rlF k) = true then 0 else 1)
def dl : Fo → List Int
  | .nil => []
  | .cons l _ r => if l ∈ dl r then dl r else dl r ++ [l]
theorem dl_mem : ∀ (f : Fo) (x : Int), x ∈ dl f ↔ x ∈ rlF f
  | .nil, x => Iff.rfl
  | .cons l k r, x => by
    unfold dl rlF
    by_cases h : l ∈ dl r
    · rw [if_pos h, dl_mem r, List.mem_cons]
      constructor
      · exact .inr
      · rintro (e | e)
        · rw [e]
          exact (dl_mem r l).mp h
        · exact e
    · rw [if_neg h, List.mem_append, List.mem_singleton, List.mem_cons, dl_mem r]
      exact Or.comm
theorem dl_len : ∀ f : Fo, (dl f).length ≤ (rlF f).length
  | .nil => Nat.le_refl _
  | .cons l k r => by
    unfold dl rlF
    have := dl_len r
    split
    · rw [List.length_cons]
      omega
    · simp
      omega
theorem dl_nodup : ∀ f : Fo, (dl f).Nodup
  | .nil => .nil
  | .cons l k r => by
    unfold dl
    split
    · exact dl_nodup r
    · rename_i h
      exact List.nodup_append.mpr ⟨dl_nodup r, by simp, fun x hx y hy => by
        rw [List.mem_singleton.mp hy]
        exact fun z => h (z ▸ hx)⟩
theorem letK_dl (r : Rule) (f : Fo) : letK r ((rlF f).length : Int) (dl f) = lets r (rlF f) := by
  rw [lets_letK]
  unfold letK
  congr 1
  cases r with
  | none => rfl
  | some p =>
    obtain ⟨m, ls⟩ := p
    show ((dl f).all fun k => decide (k ∈ ls)) = ((rlF f).all fun k => decide (k ∈ ls))
    rw [Bool.eq_iff_iff, List.all_eq_true, List.all_eq_true]
    exact ⟨fun h x hx => h x ((dl_mem f x).mpr hx), fun h x hx => h x ((dl_mem f x).mp hx)⟩
def kvG (ks : List Nat) (f : Nat → V) : List (Key × V) := ks.map fun k : Nat => ((Sum.inl (k : Int) : Key), f k)
theorem kvG_val (f : Nat → V) (k : Nat) : ∀ ks : List Nat, valV (kvG ks f) (Sum.inl (k : Int) : Key) = if k ∈ ks then some (f k) else none
  | [] => rfl
  | j :: r => by
    by_cases h : j = k
    · subst h
      rw [if_pos (by simp)]
      exact valV_pos rfl
    · rw [show valV (kvG (j :: r) f) (Sum.inl (k : Int) : Key) = valV (kvG r f) (Sum.inl (k : Int)) from valV_neg fun q => h (by
        have q2 : (j : Int) = (k : Int) := Sum.inl.inj q
        omega), kvG_val f k r]
      have h2 : ¬ k = j := fun e => h e.symm
      simp [h2]
theorem kvG_len (ks : List Nat) (f : Nat → V) : (kvG ks f).length = ks.length := by unfold kvG; rw [List.length_map]
theorem kvG_put {ks : List Nat} {f : Nat → V} {k : Nat} (h : k ∉ ks) (v : V) : putK (kvG ks f) (Sum.inl (k : Int) : Key) v = kvG (ks ++ [k]) fun z => if z = k then v else f z := by
  rw [putK_new _ (by rw [kvG_val, if_neg h])]
  unfold kvG
  rw [List.map_append]
  congr 1
  · refine List.map_congr_left fun z hz => ?_
    have ne : z ≠ k := fun e => h (by rw [← e]; exact hz)
    simp [ne]
  · simp
theorem kvG_congr {ks : List Nat} {f g : Nat → V} (h : ∀ k ∈ ks, f k = g k) : kvG ks f = kvG ks g := List.map_congr_left fun z hz => by rw [h z hz]
theorem take_lt {ys : List Nat} (hp : ys.Pairwise (· < ·)) {i : Nat} {y k : Nat} (hi : ys[i]? = some y) (hk : k ∈ ys) (h : k < y) : k ∈ ys.take i := by
  obtain ⟨j, hj, rfl⟩ := List.mem_iff_getElem.mp hk
  obtain ⟨hi1, hi2⟩ := List.getElem?_eq_some_iff.mp hi
  have hji : j < i := Decidable.byContradiction fun q => by
    rcases Nat.lt_or_eq_of_le (Nat.le_of_not_lt q) with z | z
    · have := List.pairwise_iff_getElem.mp hp i j hi1 hj z
      omega
    · subst z
      omega
  exact List.mem_take_iff_getElem.mpr ⟨j, by omega, rfl⟩
theorem take_not {ys : List Nat} (hp : ys.Pairwise (· < ·)) {i : Nat} {y : Nat} (hi : ys[i]? = some y) : y ∉ ys.take i := fun h => by
  obtain ⟨j, hj, e⟩ := List.mem_take_iff_getElem.mp h
  obtain ⟨hi1, hi2⟩ := List.getElem?_eq_some_iff.mp hi
  have := List.pairwise_iff_getElem.mp hp j i (by omega) hi1 (by omega)
  omega
theorem take_succ_at {ys : List Nat} {i : Nat} {y : Nat} (hi : ys[i]? = some y) : ys.take (i + 1) = ys.take i ++ [y] := by
  rw [List.take_add_one, hi]
  rfl
def foN (fs : List Fo) (k : Nat) : Fo := fs[k]?.getD .nil
theorem foN_at {fs : List Fo} {k : Nat} {f : Fo} (h : fs[k]? = some f) : foN fs k = f := by unfold foN; rw [h]; rfl
theorem wf_ok {es : List Ent} {fs : List Fo} (h : WfW es fs) : ∀ (j : Nat) (f : Fo), fs[j]? = some f → okF f := by
  intro j
  induction j using Nat.strongRecOn with
  | _ j ih =>
    intro f hf
    cases j with
    | zero =>
      rw [h.h0] at hf
      cases hf
      trivial
    | succ i =>
      have hil : i < es.length := by
        have := (List.getElem?_eq_some_iff.mp hf).1
        have := h.len
        omega
      obtain ⟨q1, q2, q3, fk, fr, q4, q5, q6⟩ := h.hs i es[i].1 es[i].2.1 es[i].2.2 (List.getElem?_eq_getElem hil)
      rw [hf] at q6
      cases q6
      exact ⟨q1, ih _ (by omega) _ q4, ih _ (by omega) _ q5⟩
theorem rl_ok : ∀ {f : Fo}, okF f → ∀ x ∈ rlF f, 1 ≤ x ∧ x ≤ 9
  | .nil, _, x, h => by simp [rlF] at h
  | .cons l k r, ⟨h1, _, h3⟩, x, h => by
    simp only [rlF, List.mem_cons] at h
    rcases h with e | e
    · rw [e]
      exact h1
    · exact rl_ok h3 x e
theorem nodup_b9 : ∀ (n : Nat) (ks : List Int), ks.Nodup → (∀ k ∈ ks, 1 ≤ k ∧ k ≤ (n : Int)) → ks.length ≤ n
  | 0, ks, _, h => by
    cases ks with
    | nil => exact Nat.le_refl _
    | cons k r =>
      have := h k (List.mem_cons_self ..)
      omega
  | n + 1, ks, hn, h => by
    by_cases hm : ((n + 1 : Nat) : Int) ∈ ks
    · have h1 : (ks.erase ((n + 1 : Nat) : Int)).length ≤ n := nodup_b9 n _ (hn.erase _) fun k hk => by
        have := h k (List.mem_of_mem_erase hk)
        have ne : k ≠ ((n + 1 : Nat) : Int) := fun z => by
          rw [z] at hk
          exact (hn.not_mem_erase) hk
        omega
      rw [List.length_erase_of_mem hm] at h1
      omega
    · have := nodup_b9 n ks hn fun k hk => by
        have h2 := h k hk
        have : k ≠ ((n + 1 : Nat) : Int) := fun z => hm (z ▸ hk)
        omega
      omega
theorem dl_len9 {f : Fo} (h : okF f) : (dl f).length ≤ 9 := nodup_b9 9 _ (dl_nodup f) fun x hx => by
  have := rl_ok h x ((dl_mem f x).mp hx)
  omega

section
variable {K : PySem.W.Frag} {D : Ends} {σ : L2.St} {H : Hp} {Q : VK} {x y v : V}
theorem r_catA {a b : Addr} {xs ys : List V} (ha : SqT K H a xs) (hb : SqT K H b ys) (hl : xs.length + ys.length ≤ sizeLine) (hy : ys ≠ []) (k : ∀ c H', Same H H' → SqT K H' c (xs ++ ys) → Q (.ref c) H') : rCatA K (.ref a) (.ref b) H Q := by
  refine ⟨a, b, xs, ys, rfl, rfl, ha, hb, hl, fun e => ?_, fun _ e => absurd e hy, fun _ _ p hp => k p _ (sm_up hp) (SqT.of upd_same)⟩
  subst e
  exact k b H (Same.refl _) hb
/-- {0: v} -/
theorem r_disp1 {tk tv : TE} (h : ∀ p, H p = none → tk σ (upd H p (.dK [])) fun x H1 => tv σ H1 fun y H2 => x = .int 0 ∧ H2 p = some (.dK []) ∧ Q (.ref p) (upd H2 p (.dK [((Sum.inl (0 : Int) : Key), y)]))) (mono : ∀ (f g : V → Hp → Prop), (∀ x H, f x H → g x H) → ∀ H, tk σ H f → tk σ H g) (mono2 : ∀ (f g : V → Hp → Prop), (∀ x H, f x H → g x H) → ∀ H, tv σ H f → tv σ H g) : tDisp [(tk, tv)] σ H Q := fun p hp =>
  mono _ _ (fun x H1 h1 => mono2 _ _ (fun y H2 ⟨e, h2, q⟩ => ⟨h2, [((Sum.inl (0 : Int) : Key), y)], by rw [e]; rfl, by simp, q⟩) H1 h1) _ (h p hp)
theorem mono_c {u : V} : ∀ (f g : V → Hp → Prop), (∀ x H, f x H → g x H) → ∀ H, tC u σ H f → tC u σ H g := fun f g h H q => h _ _ q
theorem mono_t : ∀ (f g : V → Hp → Prop), (∀ x H, f x H → g x H) → ∀ H, tTup tNil σ H f → tTup tNil σ H g := fun f g h H q => ⟨q.1, fun p hp => h _ _ (q.2 p hp)⟩
theorem wo3 {p1 p2 p3 p : Addr} {o : HO} (h : p = p1 ∨ p = p2 ∨ p = p3) : wo (wo (wo (upd H p o) p1) p2) p3 = wo (wo (wo H p1) p2) p3 := by
  funext b
  by_cases h3 : b = p3
  · rw [h3, wo_at, wo_at]
  · rw [wo_ne h3, wo_ne h3]
    by_cases h2 : b = p2
    · rw [h2, wo_at, wo_at]
    · rw [wo_ne h2, wo_ne h2]
      by_cases h1 : b = p1
      · rw [h1, wo_at, wo_at]
      · rw [wo_ne h1, wo_ne h1, upd_ne]
        rintro rfl
        rcases h with h | h | h
        · exact h1 h
        · exact h2 h
        · exact h3 h
theorem dgetG {d : Addr} {ks : List Nat} {f : Nat → V} {k : Nat} (h : H d = some (.dK (kvG ks f))) (hk : k ∈ ks) : DGet H d (.int (k : Int)) (some (f k)) := by
  have e := kvG_val f k ks
  rw [if_pos hk] at e
  rw [← e]
  exact DGet.k (k := Sum.inl (k : Int)) h
end
section
variable {P : Program} {w : World} {K : PySem.W.Frag} {mg : Str → Option Value} {base : Heap}
/-- what web_breaks answers of one tree -/
def ansB (roots : List Int) (es : List (Int × Pr)) : Fo → Int
  | .nil => 0
  | .cons l k r => (brF es (.cons l k r) : Int) + (if fitB es (.cons l k r) = true ∧ l ∉ roots then 1 else 0)
def sp_web_breaks (T : Tx K mg) (O : Ox K mg) : Sp := fun vs H Q E => ∃ (a k : Addr) (m : WA) (es : List Ent) (fs : List Fo) (roots : List Int) (rs : List (Int × Pr)) (n : Int), vs = [.ref a, .int n, .ref k] ∧ WebAt T H a m es fs ∧ KindAt T H k roots rs ∧ es.length ≤ 50000 ∧
  ((∃ (j : Nat) (f : Fo), n = (j : Int) ∧ fs[j]? = some f ∧ (rlF f).length = 1 ∧ ∀ H', Same H H' → Q (.int (ansB roots rs f)) H') ∨
   (∃ (j : Nat) (f : Fo), n = (j : Int) ∧ fs[j]? = some f ∧ (rlF f).length ≠ 1 ∧ E (.ref O.ntC) none H) ∨ (¬ (0 ≤ n ∧ n < fs.length) ∧ NoNm O H n E))
theorem ok_web_breaks (T : Tx K mg) (O : Ox K mg) : FnOk P w K mg base (L2.CX P w) 6 T.d_web_breaks.a T.d_web_breaks.fd P_web_breaks (sp_web_breaks T O) := by
  refine T.d_web_breaks.F.okX sc_web_breaks (fun vs H Q E h => ?_) (fun cdv A outer s H vs Q E hr h => ?_)
  · obtain ⟨_, _, _, _, _, _, _, _, rfl, _⟩ := h
    rfl
  · obtain ⟨a, k, m, es, fs, roots, rs, n, rfl, hw, hk, hes, kk⟩ := h
    refine ⟨_, ((pss_cons (ps_if (pt_cmpR op_ne (pe_meth (pv 0) T.Web.cl T.m_Web_tree_count (ok_Web_tree_count T O) (hr.mono (by decide)) T.d_Web_tree_count.b .nil (passes_call (takes_of rfl rfl rfl rfl) fun _ _ _ _ h => h) (pa_cons (pv 1) pa_nil)) pe_int (nomark _)) 
    (pss_one (ps_raise rfl (takes_of rfl rfl rfl rfl) (pmk_own0 PySem.F.excBase_ValueError O.ntX O.ntG O.ntK (raises_own O.ntB O.ntT) rfl))) pss_nil)
  (pss_cons (ps_set (i := 3) sc_web_breaks.nd rfl (by first | exact Or.inl rfl | exact Or.inr rfl) (pe_disp (pps_cons pe_int pe_int pps_nil) rfl rfl (by simp) (by simp)))
  (pss_cons (ps_set (i := 4) sc_web_breaks.nd rfl (by first | exact Or.inl rfl | exact Or.inr rfl) (pe_disp (pps_cons pe_int (pe_tup pa_nil) pps_nil) rfl rfl (by simp) (by simp)))
  (pss_cons (ps_set (i := 5) sc_web_breaks.nd rfl (by first | exact Or.inl rfl | exact Or.inr rfl) pe_dnewK)
  (pss_cons (ps_for (passes_of rfl) rfl (pi_list (pe_call (ok_parts_below T O) (hr.mono (by decide)) rfl T.d_parts_below.g T.d_parts_below.F.kp T.d_parts_below.b .nil pass0 (pa_cons (pv 0) (pa_cons (pv 1) pa_nil)))) (pg_name (i := 6) sc_web_breaks.nd rfl (by first | exact Or.inl rfl | exact Or.inr rfl)) 
    (pss_cons (ps_asg (pe_meth (pv 0) T.Web.cl T.m_Web_parts_of (ok_Web_parts_of T O) (hr.mono (by decide)) T.d_Web_parts_of.b .nil (passes_call (takes_of rfl rfl rfl rfl) fun _ _ _ _ h => h) (pa_cons (pv 6) pa_nil)) (pg_tup (by rfl) (pgs_cons (pg_name (i := 7) sc_web_breaks.nd rfl (by first | exact Or.inl rfl | exact Or.inr rfl)) (pgs_cons (pg_name (i := 8) sc_web_breaks.nd rfl (by first | exact Or.inl rfl | exact Or.inr rfl)) (pgs_cons (pg_name (i := 9) sc_web_breaks.nd rfl (by first | exact Or.inl rfl | exact Or.inr rfl)) pgs_nil)))))
    (pss_cons (ps_dput (hu_of hr) (pv 5) (pv 6) (pe_call (ok_lets_kidsT T) (hr.mono (by decide)) rfl T.d_lets_kids.g T.d_lets_kids.F.kp T.d_lets_kids.b .nil pass0 (pa_cons (pe_meth (pv 2) T.Kind.cl T.m_Kind_rule (ok_Kind_rule T) (hr.mono (by decide)) T.d_Kind_rule.b .nil pass0 (pa_cons (pv 7) pa_nil)) (pa_cons (pe_meth (pv 0) T.Web.cl T.m_Web_tree_count (ok_Web_tree_count T O) (hr.mono (by decide)) T.d_Web_tree_count.b .nil (passes_call (takes_of rfl rfl rfl rfl) fun _ _ _ _ h => h) (pa_cons (pv 8) pa_nil)) (pa_cons (pe_dget (hu_of hr) (pv 4) (pv 8) (fun _ _ => rfl)) pa_nil)))) rfl)
    (pss_cons (ps_dput (hu_of hr) (pv 3) (pv 6) (pe_op op_add (pe_op op_add (pe_dget (hu_of hr) (pv 3) (pv 8) (fun _ _ => rfl)) (pe_dget (hu_of hr) (pv 3) (pv 9) (fun _ _ => rfl))) (pe_ifExp (pt_val (pe_dget (hu_of hr) (pv 5) (pv 6) (fun _ _ => rfl))) pe_int pe_int)) rfl)
    (pss_cons (ps_set (i := 10) sc_web_breaks.nd rfl (by first | exact Or.inl rfl | exact Or.inr rfl) (pe_dget (hu_of hr) (pv 4) (pv 9) (fun _ _ => rfl)))
    (pss_one (ps_dput (hu_of hr) (pv 4) (pv 6) (pe_ifExp (pt_cmpR (r := rIn K false) op_in_seq (pv 7) (pv 10) rfl) (pv 10) (pe_op (r := rCatA K) op_catA (pv 10) (pe_tup (pa_cons (pv 7) pa_nil)))) rfl)))))))
  (pss_cons (ps_if (PW.pt (pw_and (pt_val (pe_dget (hu_of hr) (pv 5) (pv 1) (fun _ _ => rfl))) (pw_and1 (pt_cmpR (r := rIn K true) op_notIn_seq (pe_ix (r := rIxT K) ix_tup (pe_meth (pv 0) T.Web.cl T.m_Web_parts_of (ok_Web_parts_of T O) (hr.mono (by decide)) T.d_Web_parts_of.b .nil (passes_call (takes_of rfl rfl rfl rfl) fun _ _ _ _ h => h) (pa_cons (pv 1) pa_nil)) pe_int (fun _ _ => rfl)) (pe_prop (pv 2) T.Kind.cl T.p_Kind_roots (ok_Kind_roots T) (hr.mono (by decide)) T.d_Kind_roots.b .nil pass0 rfl) rfl)))) 
    (pss_one (ps_ret (pe_op op_add (pe_dget (hu_of hr) (pv 3) (pv 1) (fun _ _ => rfl)) pe_int))) pss_nil)
  (pss_one (ps_ret (pe_dget (hu_of hr) (pv 3) (pv 1) (fun _ _ => rfl))))))))))), ?_⟩
    try simp only [nxK, cxK]
    obtain ⟨dx, us, h1, h2, h3, h4, h5, h6, h7, h8⟩ := id hw
    obtain ⟨_, _, _, _, k1, -⟩ := id hk
    have hfl := h8.len
    walk_at "rd"
    refine ⟨a, m, es, fs, n, rfl, hw, ?_⟩
    rcases kk with ⟨j, f, rfl, hf, hone, kk⟩ | ⟨j, f, rfl, hf, hno, hE⟩ | ⟨hno, hE⟩
    · refine .inl ⟨j, f, rfl, hf, ?_⟩
      walk_at "rd"
      refine ifnd (fun e => absurd (show ((rlF f).length : Int) = 1 from by rw [hone]; rfl) e) (fun _ => ?_)
      walk_at "rd"
      refine r_disp1 (fun ba hba => ?_) mono_c mono_c
      walk_at "rd"
      refine ⟨rfl, upd_same, ?_⟩
      have eb0 : ∀ g : Nat → V, g 0 = .int 0 → [((Sum.inl (0 : Int) : Key), V.int 0)] = kvG [0] g := fun g e => by unfold kvG; rw [List.map_singleton, e]; rfl
      have s1 : Same H (upd (upd H ba (.dK [])) ba (.dK [((Sum.inl (0 : Int) : Key), V.int 0)])) := sm_mut (sm_up hba) hba
      have hb1 : (upd (upd H ba (.dK [])) ba (.dK [((Sum.inl (0 : Int) : Key), V.int 0)])) ba = some (.dK [((Sum.inl (0 : Int) : Key), V.int 0)]) := upd_same
      generalize upd (upd H ba (.dK [])) ba (.dK [((Sum.inl (0 : Int) : Key), V.int 0)]) = H1 at *
      walk_at "rd"
      refine r_disp1 (fun la hla => ?_) mono_c mono_t
      have fla : H la = none := s1.free hla
      have nlb : la ≠ ba := ne_fr hb1 hla
      walk_at "rd"
      intro t0 ht0
      have nt0 : t0 ≠ la := ne_fr upd_same ht0
      have ft0 : H1 t0 = none := by rw [upd_ne nt0] at ht0; exact ht0
      have nt0b : t0 ≠ ba := ne_fr hb1 ft0
      refine ⟨rfl, (upd_ne nt0.symm).trans upd_same, ?_⟩
      have s2 : Same H (upd (upd (upd H1 la (.dK [])) t0 (.tup [])) la (.dK [((Sum.inl (0 : Int) : Key), V.ref t0)])) := sm_mut ((s1.trans (sm_up hla)).trans (sm_up ht0)) fla
      have hb2 : (upd (upd (upd H1 la (.dK [])) t0 (.tup [])) la (.dK [((Sum.inl (0 : Int) : Key), V.ref t0)])) ba = some (.dK [((Sum.inl (0 : Int) : Key), V.int 0)]) := (upd_ne nlb.symm).trans ((upd_ne nt0b.symm).trans ((upd_ne nlb.symm).trans hb1))
      have hl2 : (upd (upd (upd H1 la (.dK [])) t0 (.tup [])) la (.dK [((Sum.inl (0 : Int) : Key), V.ref t0)])) la = some (.dK [((Sum.inl (0 : Int) : Key), V.ref t0)]) := upd_same
      have ht2 : (upd (upd (upd H1 la (.dK [])) t0 (.tup [])) la (.dK [((Sum.inl (0 : Int) : Key), V.ref t0)])) t0 = some (.tup []) := (upd_ne nt0).trans upd_same
      generalize upd (upd (upd H1 la (.dK [])) t0 (.tup [])) la (.dK [((Sum.inl (0 : Int) : Key), V.ref t0)]) = H2 at *
      walk_at "rd"
      intro fa hfa
      have nfb : fa ≠ ba := ne_fr hb2 hfa
      have nfl : fa ≠ la := ne_fr hl2 hfa
      have nft : fa ≠ t0 := ne_fr ht2 hfa
      have ffa : H fa = none := s2.free hfa
      have s3 : Same H (upd H2 fa (.dK [])) := s2.trans (sm_up hfa)
      have hb3 : (upd H2 fa (.dK [])) ba = some (.dK [((Sum.inl (0 : Int) : Key), V.int 0)]) := (upd_ne nfb.symm).trans hb2
      have hl3 : (upd H2 fa (.dK [])) la = some (.dK [((Sum.inl (0 : Int) : Key), V.ref t0)]) := (upd_ne nfl.symm).trans hl2
      have hf3 : (upd H2 fa (.dK [])) fa = some (.dK []) := upd_same
      have ht3 : (upd H2 fa (.dK [])) t0 = some (.tup []) := (upd_ne nft.symm).trans ht2
      generalize upd H2 fa (.dK []) = H3 at *
      have fba : H ba = none := hba
      walk_at "rd"
      refine ⟨a, m, es, fs, j, rfl, hw.up s3, (List.getElem?_eq_some_iff.mp hf).1, hes, fun pl H4 ys s4 hpl hpl4 hpw hyb hcl hjin => ?_⟩
      have hplq : SqL K H4 pl ((iN ys).map V.int) := SqL.of hpl4
      have s34 := s3.trans s4
      have hb4 : H4 ba = some (.dK [((Sum.inl (0 : Int) : Key), V.int 0)]) := s4 _ _ hb3
      have hl4 : H4 la = some (.dK [((Sum.inl (0 : Int) : Key), V.ref t0)]) := s4 _ _ hl3
      have hf4 : H4 fa = some (.dK []) := s4 _ _ hf3
      have ht4 : H4 t0 = some (.tup []) := s4 _ _ ht3
      have hfo0 : foN fs 0 = .nil := foN_at h8.h0
      walk_at "rd"
      refine ⟨pl, rfl, ⟨_, hplq⟩, forJ (walk_list (xs := (iN ys).map V.int)) ⟨fun i σ H' => ∃ (fR : Nat → V) (v6 v7 v8 v9 v10 : Option V), σ = [some (.ref a), some (.int (j : Int)), some (.ref k), some (.ref ba), some (.ref la), some (.ref fa), v6, v7, v8, v9, v10] ∧ Same H H' ∧ H' pl = some (iLs (iN ys)) ∧
        H' ba = some (.dK (kvG (0 :: ys.take i) fun z => .int (brF rs (foN fs z) : Int))) ∧ H' la = some (.dK (kvG (0 :: ys.take i) fR)) ∧ H' fa = some (.dK (kvG (ys.take i) fun z => .bl (fitB rs (foN fs z)))) ∧
        ∀ z ∈ 0 :: ys.take i, ∃ t, fR z = .ref t ∧ SqT K (wo (wo (wo H' ba) la) fa) t ((dl (foN fs z)).map V.int), ?_, fun i σ H' _ h => ?_, ?_, ?_⟩⟩
      · refine ⟨fun _ => .ref t0, none, none, none, none, none, rfl, s34, hpl4, ?_, ?_, hf4, fun z hz => ⟨t0, rfl, ?_⟩⟩
        · rw [hb4, List.take_zero]
          show _ = some (HO.dK [((Sum.inl ((0 : Nat) : Int) : Key), V.int ((brF rs (foN fs 0) : Nat) : Int))])
          rw [hfo0]
          rfl
        · rw [hl4]
          rfl
        · rw [List.take_zero] at hz
          rw [List.mem_singleton.mp hz, hfo0]
          refine SqT.of ?_
          rw [wo_ne nft.symm, wo_ne nt0, wo_ne nt0b]
          exact ht4
      · obtain ⟨_, _, _, _, _, _, _, _, h, _⟩ := h
        exact SqL.of h
      · rintro i x σ H5 H6 hi ⟨fR, v6, v7, v8, v9, v10, rfl, s5, hpl5, hb5, hl5, hf5, hR⟩ ⟨rfl, hx⟩
        obtain ⟨y0, hy0, rfl⟩ := map_get hx
        obtain ⟨y, hy, rfl⟩ := map_get hy0
        obtain ⟨hy1, hy2⟩ := hyb y (List.mem_of_getElem? hy)
        have hynot : y ∉ 0 :: ys.take i := fun h => by
          rcases List.mem_cons.mp h with e | e
          · omega
          · exact take_not hpw hy e
        have hynot2 : y ∉ ys.take i := fun h => hynot (List.mem_cons_of_mem _ h)
        have hlen : (ys.take i).length ≤ 60000 := by
          have q := nodup_bound (es.length + 1) (ys.take i) ((hpw.imp fun h => Nat.ne_of_lt h).sublist (List.take_sublist _ _)) fun z hz => by
            have := hyb z (List.mem_of_mem_take hz)
            omega
          exact Nat.le_trans q (by omega)
        have hw6 := hw.up s5
        have h16 := s5 _ _ h1
        have k16 := s5 _ _ k1
        walk_at "rd"
        refine ⟨a, m, es, fs, y, rfl, hw6, by omega, fun e => absurd e (by omega), fun i2 e b hyi hei hb => ?_⟩
        obtain ⟨l, kc, rc⟩ := e
        obtain ⟨hl19, hkle, hrle, fk, fr, hfk, hfr, hfy⟩ := h8.hs i2 l kc rc hei
        rw [← hyi] at hfy
        have hcl2 := hcl i2 (l, kc, rc) (by rw [← hyi]; exact List.mem_of_getElem? hy) hei
        have hkin : kc ∈ 0 :: ys.take i := by
          rcases hcl2.1 with e | e
          · have e : kc = 0 := e
            rw [e]
            exact List.mem_cons_self ..
          · exact List.mem_cons_of_mem _ (take_lt hpw hy e (by omega))
        have hrin : rc ∈ 0 :: ys.take i := by
          rcases hcl2.2 with e | e
          · have e : rc = 0 := e
            rw [e]
            exact List.mem_cons_self ..
          · exact List.mem_cons_of_mem _ (take_lt hpw hy e (by omega))
        have hbT : SqT K H6 b [.int l, .int (kc : Int), .int (rc : Int)] := SqT.of hb
        obtain ⟨tk, etk, htk⟩ := hR kc hkin
        obtain ⟨tr, etr, htr⟩ := hR rc hrin
        rw [foN_at hfk] at htk
        rw [foN_at hfr] at htr
        have sF6 : Same (wo (wo (wo H6 ba) la) fa) H6 := Same.trans sm_wo (Same.trans sm_wo sm_wo)
        walk_at "rd"
        refine ⟨k, roots, rs, l, rfl, hk.up s5, fun rv hrv => ?_⟩
        walk_at "rd"
        refine ⟨a, m, es, fs, (kc : Int), rfl, hw6, .inl ⟨kc, fk, rfl, hfk, ?_⟩⟩
        walk_at "rd"
        refine ⟨la, fR kc, rfl, dgetG hl5 hkin, ?_⟩
        rw [etk]
        walk_at "rd"
        refine ⟨rv, rs.lookup l, _, tk, dl fk, rfl, hrv, sm_tp sF6 htk, ?_⟩
        rw [letK_dl]
        walk_at "rd"
        refine ⟨fa, _, rfl, DPut.k (k := Sum.inl (y : Int)) hf5 (by rw [kvG_len]; exact szlt (by omega)), ?_⟩
        rw [kvG_put hynot2]
        have hle : (fun z => if z = y then V.bl (lets (rs.lookup l) (rlF fk)) else V.bl (fitB rs (foN fs z))) = fun z => V.bl (fitB rs (foN fs z)) := by
          funext z
          by_cases hz : z = y
          · rw [if_pos hz, hz, foN_at hfy]
            rfl
          · rw [if_neg hz]
        rw [hle, ← take_succ_at hy]
        have npf : pl ≠ fa := ne_of hpl4 hf4 (by intro z; cases z)
        have npb : pl ≠ ba := ne_of hpl4 hb4 (by intro z; cases z)
        have npl : pl ≠ la := ne_of hpl4 hl4 (by intro z; cases z)
        have hf7 : (upd H6 fa (.dK (kvG (ys.take (i + 1)) fun z => V.bl (fitB rs (foN fs z))))) fa = some (.dK (kvG (ys.take (i + 1)) fun z => V.bl (fitB rs (foN fs z)))) := upd_same
        have hb7 : (upd H6 fa (.dK (kvG (ys.take (i + 1)) fun z => V.bl (fitB rs (foN fs z))))) ba = some (.dK (kvG (0 :: ys.take i) fun z => .int (brF rs (foN fs z) : Int))) := (upd_ne nfb.symm).trans hb5
        have hl7 : (upd H6 fa (.dK (kvG (ys.take (i + 1)) fun z => V.bl (fitB rs (foN fs z))))) la = some (.dK (kvG (0 :: ys.take i) fR)) := (upd_ne nfl.symm).trans hl5
        have hp7 : (upd H6 fa (.dK (kvG (ys.take (i + 1)) fun z => V.bl (fitB rs (foN fs z))))) pl = some (iLs (iN ys)) := (upd_ne npf).trans hpl5
        have s7 : Same H (upd H6 fa (.dK (kvG (ys.take (i + 1)) fun z => V.bl (fitB rs (foN fs z))))) := sm_mut s5 ffa
        have w7 : wo (wo (wo (upd H6 fa (.dK (kvG (ys.take (i + 1)) fun z => V.bl (fitB rs (foN fs z))))) ba) la) fa = wo (wo (wo H6 ba) la) fa := wo3 (.inr (.inr rfl))
        generalize upd H6 fa (.dK (kvG (ys.take (i + 1)) fun z => V.bl (fitB rs (foN fs z)))) = H7 at *
        have hyin : y ∈ ys.take (i + 1) := by rw [take_succ_at hy]; exact List.mem_append_right _ (List.mem_singleton.mpr rfl)
        walk_at "rd"
        refine ⟨ba, _, rfl, dgetG hb7 hkin, ?_⟩
        walk_at "rd"
        refine ⟨ba, _, rfl, dgetG hb7 hrin, ?_⟩
        rw [foN_at hfk, foN_at hfr]
        walk_at "rd"
        refine ⟨fa, _, rfl, dgetG hf7 hyin, ?_⟩
        rw [foN_at hfy]
        walk_at "rd"
        have hfun : ∀ c : Int, c = (brF rs (.cons l fk fr) : Int) → (fun z => if z = y then V.int c else V.int (brF rs (foN fs z) : Int)) = fun z => V.int (brF rs (foN fs z) : Int) := fun c hc => by
          funext z
          by_cases hz : z = y
          · rw [if_pos hz, hz, foN_at hfy, hc]
          · rw [if_neg hz]
        have ebr : brF rs (.cons l fk fr) = brF rs fk + brF rs fr + (if fitB rs (.cons l fk fr) = true then 0 else 1) := rfl
        have fin : ∀ (v10 : Option V) (b10 : Option V), ∀ H9 H10 : Hp, True := fun _ _ _ _ => trivial
        cases hfit : fitB rs (.cons l fk fr)
        case' false =>
          rw [hfit, if_neg (by decide)] at ebr
          refine iteF ?_
          walk_at "rd"
          refine ⟨ba, _, rfl, DPut.k (k := Sum.inl (y : Int)) hb7 (by rw [kvG_len]; exact szlt (by rw [List.length_cons]; omega)), ?_⟩
          rw [kvG_put hynot, hfun _ (by rw [ebr]; omega)]
        case' true =>
          rw [hfit, if_pos rfl] at ebr
          refine iteT ?_
          walk_at "rd"
          refine ⟨ba, _, rfl, DPut.k (k := Sum.inl (y : Int)) hb7 (by rw [kvG_len]; exact szlt (by rw [List.length_cons]; omega)), ?_⟩
          rw [kvG_put hynot, hfun _ (by rw [ebr]; omega)]
        all_goals
          rw [List.cons_append, ← take_succ_at hy]
          have hb8 : (upd H7 ba (.dK (kvG (0 :: ys.take (i + 1)) fun z => V.int (brF rs (foN fs z) : Int)))) ba = some (.dK (kvG (0 :: ys.take (i + 1)) fun z => V.int (brF rs (foN fs z) : Int))) := upd_same
          have hl8 : (upd H7 ba (.dK (kvG (0 :: ys.take (i + 1)) fun z => V.int (brF rs (foN fs z) : Int)))) la = some (.dK (kvG (0 :: ys.take i) fR)) := (upd_ne nlb).trans hl7
          have hf8 : (upd H7 ba (.dK (kvG (0 :: ys.take (i + 1)) fun z => V.int (brF rs (foN fs z) : Int)))) fa = some (.dK (kvG (ys.take (i + 1)) fun z => V.bl (fitB rs (foN fs z)))) := (upd_ne nfb).trans hf7
          have hp8 : (upd H7 ba (.dK (kvG (0 :: ys.take (i + 1)) fun z => V.int (brF rs (foN fs z) : Int)))) pl = some (iLs (iN ys)) := (upd_ne npb).trans hp7
          have s8 : Same H (upd H7 ba (.dK (kvG (0 :: ys.take (i + 1)) fun z => V.int (brF rs (foN fs z) : Int)))) := sm_mut s7 fba
          have w8 : wo (wo (wo (upd H7 ba (.dK (kvG (0 :: ys.take (i + 1)) fun z => V.int (brF rs (foN fs z) : Int)))) ba) la) fa = wo (wo (wo H6 ba) la) fa := (wo3 (.inl rfl)).trans w7
          generalize upd H7 ba (.dK (kvG (0 :: ys.take (i + 1)) fun z => V.int (brF rs (foN fs z) : Int))) = H8 at *
          walk_at "rd"
          refine ⟨la, fR rc, rfl, dgetG hl8 hrin, ?_⟩
          rw [etr]
          walk_at "rd"
          have htr8 : SqT K H8 tr ((dl fr).map V.int) := by
            rw [← w8] at htr
            exact sm_tp (Same.trans sm_wo (Same.trans sm_wo sm_wo)) htr
          have dlr := dl_len9 (wf_ok h8 rc fr hfr)
          have key : ∀ (c : Addr) (H9 : Hp), Same H8 H9 → SqT K (wo (wo (wo H9 ba) la) fa) c ((dl (.cons l fk fr)).map V.int) →
              Same H (upd H9 la (.dK (putK (kvG (0 :: ys.take i) fR) (Sum.inl (y : Int)) (.ref c)))) ∧ (upd H9 la (.dK (putK (kvG (0 :: ys.take i) fR) (Sum.inl (y : Int)) (.ref c)))) pl = some (iLs (iN ys)) ∧
              (upd H9 la (.dK (putK (kvG (0 :: ys.take i) fR) (Sum.inl (y : Int)) (.ref c)))) ba = some (.dK (kvG (0 :: ys.take (i + 1)) fun z => .int (brF rs (foN fs z) : Int))) ∧
              (upd H9 la (.dK (putK (kvG (0 :: ys.take i) fR) (Sum.inl (y : Int)) (.ref c)))) la = some (.dK (kvG (0 :: ys.take (i + 1)) fun z => if z = y then V.ref c else fR z)) ∧
              (upd H9 la (.dK (putK (kvG (0 :: ys.take i) fR) (Sum.inl (y : Int)) (.ref c)))) fa = some (.dK (kvG (ys.take (i + 1)) fun z => .bl (fitB rs (foN fs z)))) ∧
              ∀ z ∈ 0 :: ys.take (i + 1), ∃ t, (if z = y then V.ref c else fR z) = .ref t ∧ SqT K (wo (wo (wo (upd H9 la (.dK (putK (kvG (0 :: ys.take i) fR) (Sum.inl (y : Int)) (.ref c)))) ba) la) fa) t ((dl (foN fs z)).map V.int) := fun c H9 s9 hc => by
            refine ⟨sm_mut (s8.trans s9) fla, (upd_ne npl).trans (s9 _ _ hp8), (upd_ne nlb.symm).trans (s9 _ _ hb8), ?_, (upd_ne nfl).trans (s9 _ _ hf8), fun z hz => ?_⟩
            · rw [upd_same, kvG_put hynot, List.cons_append, ← take_succ_at hy]
            · rw [wo3 (.inr (.inl rfl))]
              by_cases hzy : z = y
              · rw [if_pos hzy, hzy, foN_at hfy]
                exact ⟨c, rfl, hc⟩
              · rw [if_neg hzy]
                have hz2 : z ∈ 0 :: ys.take i := by
                  rw [take_succ_at hy] at hz
                  rcases List.mem_cons.mp hz with e | e
                  · rw [e]
                    exact List.mem_cons_self ..
                  · rcases List.mem_append.mp e with e | e
                    · exact List.mem_cons_of_mem _ e
                    · exact absurd (List.mem_singleton.mp e) hzy
                obtain ⟨t, q1, q2⟩ := hR z hz2
                refine ⟨t, q1, sm_tp (wo_mono (wo_mono (wo_mono s9))) ?_⟩
                rw [w8]
                exact q2
          have szl8 : (kvG (0 :: ys.take i) fR).length < sizeLine := by rw [kvG_len]; exact szlt (by rw [List.length_cons]; omega)
          refine r_inT htr8 ?_
          walk_at "rd"
          refine ifd (fun hin => ?_) (fun hno => ?_)
          · walk_at "rd"
            obtain ⟨z1, z2, z3, z4, z5, z6⟩ := key tr H8 (Same.refl _) (by
              rw [w8, show dl (.cons l fk fr) = dl fr from if_pos hin]
              exact htr)
            exact ⟨la, _, rfl, DPut.k (k := Sum.inl (y : Int)) hl8 szl8, _, _, _, _, _, _, rfl, z1, z2, z3, z4, z5, z6⟩
          · walk_at "rd"
            intro q hq
            have hq9 : SqT K (upd H8 q (.tup [V.int l])) q [V.int l] := SqT.of upd_same
            have htr9 : SqT K (upd H8 q (.tup [V.int l])) tr ((dl fr).map V.int) := sm_tp (sm_up hq) htr8
            have qb : q ≠ ba := ne_fr hb8 hq
            have ql : q ≠ la := ne_fr hl8 hq
            have qf : q ≠ fa := ne_fr hf8 hq
            have edl : dl (.cons l fk fr) = dl fr ++ [l] := if_neg hno
            have hl9 : (upd H8 q (.tup [V.int l])) la = some (.dK (kvG (0 :: ys.take i) fR)) := (upd_ne ql.symm).trans hl8
            refine ⟨tr, q, _, _, rfl, rfl, htr9, hq9, szl (by rw [List.length_map]; simp; omega), fun e => ?_, fun _ e => by simp at e, fun _ _ p hp => ?_⟩
            · have e2 : dl fr = [] := List.map_eq_nil_iff.mp e
              walk_at "rd"
              obtain ⟨z1, z2, z3, z4, z5, z6⟩ := key q _ (sm_up hq) (by
                rw [edl, e2]
                exact SqT.of ((wo_ne qf).trans ((wo_ne ql).trans ((wo_ne qb).trans upd_same))))
              exact ⟨la, _, rfl, DPut.k (k := Sum.inl (y : Int)) hl9 szl8, _, _, _, _, _, _, rfl, z1, z2, z3, z4, z5, z6⟩
            · have pb : p ≠ ba := ne_fr ((upd_ne qb.symm).trans hb8) hp
              have pla : p ≠ la := ne_fr hl9 hp
              have pf : p ≠ fa := ne_fr ((upd_ne qf.symm).trans hf8) hp
              walk_at "rd"
              obtain ⟨z1, z2, z3, z4, z5, z6⟩ := key p _ ((sm_up hq).trans (sm_up hp)) (by
                rw [edl, List.map_append]
                exact SqT.of ((wo_ne pf).trans ((wo_ne pla).trans ((wo_ne pb).trans upd_same))))
              exact ⟨la, _, rfl, DPut.k (k := Sum.inl (y : Int)) ((upd_ne pla.symm).trans hl9) szl8, _, _, _, _, _, _, rfl, z1, z2, z3, z4, z5, z6⟩
      · rintro σ H5 ⟨fR, v6, v7, v8, v9, v10, rfl, s5, hpl5, hb5, hl5, hf5, hR⟩
        obtain ⟨l, fk, rfl⟩ : ∃ l fk, f = .cons l fk .nil := by
          cases f with
          | nil => cases hone
          | cons l fk fr =>
            cases fr with
            | nil => exact ⟨l, fk, rfl⟩
            | cons l2 a2 b2 => simp [rlF] at hone
        have etk : ys.take ((iN ys).map V.int).length = ys := by rw [List.length_map, iN_len, List.take_length]
        rw [etk] at hb5 hf5
        have hj0 : j ≠ 0 := fun e => by
          rw [e, h8.h0] at hf
          cases hf
        have hjy : j ∈ ys := hjin.resolve_left hj0
        have hjb : j ∈ 0 :: ys := List.mem_cons_of_mem _ hjy
        have hw5 := hw.up s5
        have h15 := s5 _ _ h1
        have k15 := s5 _ _ k1
        obtain ⟨i, rfl⟩ : ∃ i, j = i + 1 := ⟨j - 1, by omega⟩
        have hil : i + 1 < fs.length := (List.getElem?_eq_some_iff.mp hf).1
        walk_at "rd"
        refine ⟨fa, _, rfl, dgetG hf5 hjy, ?_⟩
        rw [foN_at hf]
        walk_at "rd"
        have hans : ansB roots rs (.cons l fk .nil) = (brF rs (.cons l fk .nil) : Int) + (if fitB rs (.cons l fk .nil) = true ∧ l ∉ roots then 1 else 0) := rfl
        cases hfit : fitB rs (.cons l fk .nil) with
        | false =>
          rw [hfit, if_neg (fun q => by cases q.1)] at hans
          refine iteF ?_
          refine iteF ?_
          walk_at "rd"
          refine ⟨ba, _, rfl, dgetG hb5 hjb, ?_⟩
          rw [foN_at hf]
          have z := kk H5 s5
          rw [hans, Int.add_zero] at z
          exact z
        | true =>
          refine iteT ?_
          walk_at "rd"
          refine ⟨a, m, es, fs, i + 1, rfl, hw5, hil, fun e => absurd e (by omega), fun i2 e b hyi hei hb => ?_⟩
          obtain ⟨l2, kc, rc⟩ := e
          obtain ⟨-, -, -, fk2, fr2, -, -, hfy⟩ := h8.hs i2 l2 kc rc hei
          rw [← hyi, hf] at hfy
          cases hfy
          have hbT : SqT K H5 b [.int l, .int (kc : Int), .int (rc : Int)] := SqT.of hb
          walk_at "rd"
          refine r_ixT hbT (by decide) (by simp) fun v hv => ?_
          obtain rfl := Option.some.inj hv
          walk_at "rd"
          refine ⟨k, roots, rs, rfl, hk.up s5, fun r hrt => ?_⟩
          walk_at "rd"
          refine ifnd (fun hno => ?_) (fun hin => ?_)
          · have hno : l ∉ roots := hno
            rw [if_pos ⟨hfit, hno⟩] at hans
            walk_at "rd"
            refine ⟨ba, _, rfl, dgetG hb5 hjb, ?_⟩
            rw [foN_at hf]
            walk_at "rd"
            have z := kk H5 s5
            rw [hans] at z
            exact z
          · have hin : l ∈ roots := hin
            rw [if_neg (fun q => q.2 hin)] at hans
            walk_at "rd"
            refine ⟨ba, _, rfl, dgetG hb5 hjb, ?_⟩
            rw [foN_at hf]
            have z := kk H5 s5
            rw [hans, Int.add_zero] at z
            exact z
    · refine .inl ⟨j, f, rfl, hf, ?_⟩
      walk_at "rd"
      refine ifnd (fun _ => ?_) (fun e => absurd (show ((rlF f).length : Int) = 1 from e) (by omega))
      walk_at "rd"
      exact hE
    · exact .inr ⟨hno, hE⟩
end

/-! ### the law's count of breaks is the web's -/
theorem kLab_filter : ∀ (ps : List (Int × Int)) (v : Int), kLab ps v = (ps.filter fun q => decide (q.1 = v)).map (·.2) := by
  intro ps v
  have key : ∀ n, n ≤ ps.length → ((List.range n).filter fun k => decide (upA ps k = v)).map (labA ps) = ((ps.take n).filter fun q => decide (q.1 = v)).map (·.2) := by
    intro n
    induction n with
    | zero => intro _; simp
    | succ n ih =>
      intro hn
      have hq : ps[n]? = some ps[n] := List.getElem?_eq_getElem (by omega)
      rw [range_filter_snoc, List.map_append, ih (by omega), List.take_add_one, hq, List.filter_append, List.map_append]
      congr 1
      rw [upA_at hq]
      by_cases h : ps[n].1 = v
      · rw [if_pos (decide_eq_true h)]
        simp [h, labA_at hq]
      · rw [if_neg (by rw [decide_eq_false h]; decide)]
        simp [h]
  have := key ps.length (Nat.le_refl _)
  rw [List.take_length] at this
  exact this
theorem tabF_ups : ∀ (f : Fo) (p : Int) (s : Nat), ∀ q ∈ tabF p s f, q.1 = p ∨ (s : Int) ≤ q.1
  | .nil, _, _, q, h => by simp [tabF] at h
  | .cons l k r, p, s, q, h => by
    simp only [tabF, List.mem_cons, List.mem_append] at h
    rcases h with e | e | e
    · exact .inl (by rw [e])
    · rcases tabF_ups k _ _ q e with e | e
      · exact .inr (by omega)
      · exact .inr (by omega)
    · rcases tabF_ups r _ _ q e with e | e
      · exact .inl e
      · exact .inr (by omega)
theorem filt_nil {ps : List (Int × Int)} {v : Int} (h : ∀ q ∈ ps, q.1 ≠ v) : (ps.filter fun q => decide (q.1 = v)) = [] := List.filter_eq_nil_iff.mpr fun q hq e => h q hq (of_decide_eq_true e)
theorem filt_roots : ∀ (f : Fo) (p : Int) (s : Nat), p < s → ((tabF p s f).filter fun q => decide (q.1 = p)).map (·.2) = rlF f
  | .nil, _, _, _ => rfl
  | .cons l k r, p, s, h => by
    simp only [tabF, rlF]
    rw [List.filter_cons, if_pos (decide_eq_true rfl), List.filter_append, filt_nil (ps := tabF (s : Nat) (s + 1) k) (v := p), List.nil_append, List.map_cons, filt_roots r p _ (by omega)]
    intro q hq
    rcases tabF_ups k _ _ q hq with e | e <;> omega
theorem cnt_seg (es : List (Int × Pr)) : ∀ (f : Fo) (p : Int) (s : Nat) (A B : List (Int × Int)), A.length = s → p < s → (∀ q ∈ A, q.1 < s) → (∀ q ∈ B, q.1 < s ∨ ((s + szF f : Nat) : Int) ≤ q.1) →
    (List.range' s (szF f)).countP (brkE es (A ++ (tabF p s f ++ B))) = brF es f
  | .nil, _, _, _, _, _, _, _, _ => rfl
  | .cons l k r, p, s, A, B, hA, hp, hAu, hBu => by
    have er : List.range' s (szF (.cons l k r)) = s :: (List.range' (s + 1) (szF k) ++ List.range' (s + 1 + szF k) (szF r)) := by
      rw [show szF (.cons l k r) = (szF k + szF r) + 1 from by simp only [szF]; omega, List.range'_succ, ← List.range'_append_1]
    have e0 : A ++ (tabF p s (.cons l k r) ++ B) = A ++ (p, l) :: (tabF (s : Nat) (s + 1) k ++ (tabF p (s + 1 + szF k) r ++ B)) := by simp [tabF]
    have e1 : A ++ (p, l) :: (tabF (s : Nat) (s + 1) k ++ (tabF p (s + 1 + szF k) r ++ B)) = (A ++ [(p, l)]) ++ (tabF (s : Nat) (s + 1) k ++ (tabF p (s + 1 + szF k) r ++ B)) := by simp
    have e2 : A ++ (p, l) :: (tabF (s : Nat) (s + 1) k ++ (tabF p (s + 1 + szF k) r ++ B)) = (A ++ (p, l) :: tabF (s : Nat) (s + 1) k) ++ (tabF p (s + 1 + szF k) r ++ B) := by simp
    have szc : szF (.cons l k r) = 1 + szF k + szF r := rfl
    have ih1 := cnt_seg es k (s : Nat) (s + 1) (A ++ [(p, l)]) (tabF p (s + 1 + szF k) r ++ B) (by simp [hA]) (by omega) (fun q hq => by
      rcases List.mem_append.mp hq with e | e
      · have := hAu q e
        omega
      · rw [List.mem_singleton.mp e]
        show p < _
        omega) (fun q hq => by
      rcases List.mem_append.mp hq with e | e
      · rcases tabF_ups r _ _ q e with e | e <;> omega
      · have := hBu q e
        rw [szc] at this
        omega)
    have ih2 := cnt_seg es r p (s + 1 + szF k) (A ++ (p, l) :: tabF (s : Nat) (s + 1) k) B (by simp [hA, tabF_len]; omega) (by omega) (fun q hq => by
      rcases List.mem_append.mp hq with e | e
      · have := hAu q e
        omega
      · rcases List.mem_cons.mp e with e | e
        · rw [e]
          show p < _
          omega
        · obtain ⟨j, hj, rfl⟩ := List.mem_iff_getElem.mp e
          have := tabF_up k (s : Nat) (s + 1) (by omega) j _ (List.getElem?_eq_getElem hj)
          rw [tabF_len] at hj
          omega) (fun q hq => by
      have := hBu q hq
      rw [szc] at this
      omega)
    rw [er, e0, List.countP_cons, List.countP_append]
    rw [← e1] at ih1
    rw [← e2] at ih2
    rw [ih1, ih2]
    have hlab : labA (A ++ (p, l) :: (tabF (s : Nat) (s + 1) k ++ (tabF p (s + 1 + szF k) r ++ B))) s = l := labA_at (p := (p, l)) (by
      rw [← hA, List.getElem?_append_right (Nat.le_refl _), Nat.sub_self]
      rfl)
    have hkl : kLab (A ++ (p, l) :: (tabF (s : Nat) (s + 1) k ++ (tabF p (s + 1 + szF k) r ++ B))) (s : Nat) = rlF k := by
      rw [kLab_filter, List.filter_append, filt_nil (ps := A) (fun q hq => by have := hAu q hq; omega), List.nil_append, List.filter_cons, if_neg (by
        show ¬ decide (p = ((s : Nat) : Int)) = true
        rw [decide_eq_false (by omega)]
        decide), List.filter_append, List.map_append, filt_roots k _ _ (by omega), List.filter_append, filt_nil (ps := tabF p (s + 1 + szF k) r) (fun q hq => by rcases tabF_ups r _ _ q hq with e | e <;> omega), filt_nil (ps := B) (fun q hq => by
        have := hBu q hq
        rw [szc] at this
        omega)]
      simp
    have hbr : brkE es (A ++ (p, l) :: (tabF (s : Nat) (s + 1) k ++ (tabF p (s + 1 + szF k) r ++ B))) s = !lets (es.lookup l) (rlF k) := by
      unfold brkE
      rw [hlab, hkl]
    rw [hbr]
    show _ = brF es k + brF es r + (if lets (es.lookup l) (rlF k) = true then 0 else 1)
    cases lets (es.lookup l) (rlF k) <;> rfl
theorem brkK_cnt (es : List (Int × Pr)) (f : Fo) : (brkK es (tabF (-1) 0 f) (tabF (-1) 0 f).length).length = brF es f := by
  have := cnt_seg es f (-1) 0 [] [] rfl (by decide) (by simp) (by simp)
  rw [List.nil_append, List.append_nil, List.countP_eq_length_filter] at this
  unfold brkK
  rw [iN_len, tabF_len, List.range_eq_range']
  exact this
theorem brkE_root (es : List (Int × Pr)) (l : Int) (k : Fo) : brkE es (tabF (-1) 0 (.cons l k .nil)) 0 = !fitB es (.cons l k .nil) := by
  unfold brkE fitB
  have h1 : labA (tabF (-1) 0 (.cons l k .nil)) 0 = l := rfl
  have h2 : kLab (tabF (-1) 0 (.cons l k .nil)) ((0 : Nat) : Int) = rlF k := by
    rw [kLab_filter]
    simp only [tabF, List.append_nil]
    rw [List.filter_cons, if_neg (by
      show ¬ decide ((-1 : Int) = ((0 : Nat) : Int)) = true
      decide)]
    exact filt_roots k _ _ (by decide)
  rw [h1, h2]
theorem brkKR_len (roots : List Int) (es : List (Int × Pr)) (l : Int) (k : Fo) : ((brkKR roots es (tabF (-1) 0 (.cons l k .nil))).length : Int) = ansB roots es (.cons l k .nil) := by
  have hl : 0 < (tabF (-1) 0 (.cons l k .nil)).length := by rw [tabF_len]; simp only [szF]; omega
  rw [brkKR_eq _ _ _ hl, List.length_append, brkK_cnt]
  have h0 : (0 : Int) ∈ brkK es (tabF (-1) 0 (.cons l k .nil)) (tabF (-1) 0 (.cons l k .nil)).length ↔ fitB es (.cons l k .nil) = false := by
    unfold brkK iN
    rw [List.mem_map]
    constructor
    · rintro ⟨j, hj, e⟩
      have e2 : (j : Int) = 0 := e
      obtain rfl : j = 0 := by omega
      have := (List.mem_filter.mp hj).2
      rw [brkE_root] at this
      simpa using this
    · intro h
      exact ⟨0, List.mem_filter.mpr ⟨List.mem_range.mpr hl, by rw [brkE_root, h]; rfl⟩, rfl⟩
  have hlab : labA (tabF (-1) 0 (.cons l k .nil)) 0 = l := rfl
  show _ = (brF es (.cons l k .nil) : Int) + _
  rw [hlab]
  by_cases hc : l ∉ roots ∧ (0 : Int) ∉ brkK es (tabF (-1) 0 (.cons l k .nil)) (tabF (-1) 0 (.cons l k .nil)).length
  · rw [if_pos hc, if_pos ⟨by
      cases hb : fitB es (.cons l k .nil) with
      | true => rfl
      | false => exact absurd (h0.mpr hb) hc.2, hc.1⟩]
    simp
    omega
  · rw [if_neg hc, if_neg]
    · simp
    · rintro ⟨q1, q2⟩
      exact hc ⟨q2, fun z => by
        have := h0.mp z
        rw [q1] at this
        cases this⟩
theorem brkL_eq {roots : List Int} {rs : List Rule} {ps : List (Int × Int)} (h : LabOk ps) : brkL roots rs ps = brkKR roots (giveL rs 9) ps := by
  unfold brkL brkKR
  congr 1
  refine List.filter_congr fun v hv => ?_
  have hl := h v (List.mem_range.mp hv)
  unfold brk brkE
  rw [giveL_at, if_pos (by omega)]

/-! ### great trees: copies of one tree in a row -/
def repF (l : Int) (k : Fo) : Nat → Fo
  | 0 => .nil
  | n + 1 => .cons l k (repF l k n)
theorem repF_sz (l : Int) (k : Fo) : ∀ n, szF (repF l k n) = n * szF (.cons l k .nil)
  | 0 => by simp [repF, szF]
  | n + 1 => by
    show 1 + szF k + szF (repF l k n) = _
    rw [repF_sz l k n, Nat.succ_mul]
    simp only [szF]
    omega
theorem repF_br (es : List (Int × Pr)) (l : Int) (k : Fo) : ∀ n, brF es (repF l k n) = n * brF es (.cons l k .nil)
  | 0 => by simp [repF, brF]
  | n + 1 => by
    show brF es k + brF es (repF l k n) + (if lets (es.lookup l) (rlF k) = true then 0 else 1) = _
    rw [repF_br es l k n, Nat.succ_mul]
    show _ = n * brF es (.cons l k .nil) + (brF es k + 0 + (if lets (es.lookup l) (rlF k) = true then 0 else 1))
    omega
theorem repF_rl (l : Int) (k : Fo) : ∀ n, rlF (repF l k n) = List.replicate n l
  | 0 => rfl
  | n + 1 => by
    show l :: rlF (repF l k n) = _
    rw [repF_rl l k n, List.replicate_succ]
theorem own_lets (r : Rule) (n : Nat) (l : Int) (h : 1 ≤ n) : ownV r (n : Int) l = if lets r (List.replicate n l) = true then 0 else 1 := by
  cases r with
  | none => rfl
  | some p =>
    obtain ⟨m, ls⟩ := p
    have hall : ((List.replicate n l).all fun k => decide (k ∈ ls)) = decide (l ∈ ls) := by
      cases hb : decide (l ∈ ls) with
      | true =>
        rw [List.all_eq_true]
        intro x hx
        rw [List.eq_of_mem_replicate hx]
        exact hb
      | false =>
        rw [List.all_eq_false]
        exact ⟨l, List.mem_replicate.mpr ⟨by omega, rfl⟩, by rw [hb]; decide⟩
    unfold ownV lets
    simp only [hall, List.length_replicate]
    by_cases hk : l ∈ ls
    · rw [if_pos hk, decide_eq_true hk]
      cases m with
      | none => rfl
      | some ms =>
        by_cases hm : (n : Int) ∈ ms
        · simp [hm]
        · simp [hm]
    · rw [if_neg hk, decide_eq_false hk, Bool.and_false]
      rfl
theorem great_br (es : List (Int × Pr)) (a l : Int) (k : Fo) (n : Nat) : brF es (.cons a (repF l k n) .nil) = n * brF es (.cons l k .nil) + (if fitB es (.cons a (repF l k n) .nil) = true then 0 else 1) := by
  show brF es (repF l k n) + 0 + (if lets (es.lookup a) (rlF (repF l k n)) = true then 0 else 1) = _
  rw [repF_br]
  rfl
theorem great_sz (a l : Int) (k : Fo) (n : Nat) : szF (.cons a (repF l k n) .nil) = 1 + n * szF (.cons l k .nil) := by
  show 1 + szF (repF l k n) + 0 = _
  rw [repF_sz]
  rfl
theorem great_fit (es : List (Int × Pr)) (a l : Int) (k : Fo) (n : Nat) (h : 1 ≤ n) : ownV (es.lookup a) (n : Int) l = if fitB es (.cons a (repF l k n) .nil) = true then 0 else 1 := by
  rw [own_lets _ _ _ h]
  show _ = if lets (es.lookup a) (rlF (repF l k n)) = true then 0 else 1
  rw [repF_rl]
theorem repF_ok {l : Int} {k : Fo} (h : okF (.cons l k .nil)) : ∀ n, okF (repF l k n)
  | 0 => trivial
  | n + 1 => ⟨h.1, h.2.1, repF_ok h n⟩
theorem brk_own (es : List (Int × Pr)) (l : Int) (k : Fo) : ((0 : Int) ∈ brkKR [l] es (tabF (-1) 0 (.cons l k .nil))) ↔ fitB es (.cons l k .nil) = false := by
  have hl : 0 < (tabF (-1) 0 (.cons l k .nil)).length := by rw [tabF_len]; simp only [szF]; omega
  have hlab : labA (tabF (-1) 0 (.cons l k .nil)) 0 = l := rfl
  unfold brkKR iN
  rw [List.mem_map]
  constructor
  · rintro ⟨j, hj, e⟩
    have e2 : (j : Int) = 0 := e
    obtain rfl : j = 0 := by omega
    have := (List.mem_filter.mp hj).2
    rw [hlab, brkE_root] at this
    simpa using this
  · intro h
    exact ⟨0, List.mem_filter.mpr ⟨List.mem_range.mpr hl, by rw [hlab, brkE_root, h]; simp⟩, rfl⟩

/-! ### bounds of what is shown -/
theorem brF_le (es : List (Int × Pr)) : ∀ f : Fo, brF es f ≤ szF f
  | .nil => Nat.le_refl _
  | .cons l k r => by
    have h1 := brF_le es k
    have h2 := brF_le es r
    show brF es k + brF es r + (if lets (es.lookup l) (rlF k) = true then 0 else 1) ≤ 1 + szF k + szF r
    split <;> omega
theorem ans_bd (roots : List Int) (es : List (Int × Pr)) (l : Int) (k : Fo) : 0 ≤ ansB roots es (.cons l k .nil) ∧ ansB roots es (.cons l k .nil) ≤ (szF (.cons l k .nil) : Int) + 1 := by
  have h := brF_le es (.cons l k .nil)
  show 0 ≤ (brF es (.cons l k .nil) : Int) + (if fitB es (.cons l k .nil) = true ∧ l ∉ roots then 1 else 0) ∧ (brF es (.cons l k .nil) : Int) + (if fitB es (.cons l k .nil) = true ∧ l ∉ roots then 1 else 0) ≤ _
  split <;> omega
theorem sml2 {i j : Int} (h0 : 0 ≤ i) (h1 : i < 10 ^ 20) (h2 : 0 ≤ j) (h3 : j < 10 ^ 20) : sml (.list [.int i, .int j]) = true := by
  simp only [sml, smlAll, Bool.and_true, Bool.and_eq_true, decide_eq_true_eq]
  omega
theorem iteNS {A B : Prop} (h : B) {d : PyData} : if (!decide (V.str d.shown = V.str d.shown)) = true then A else B := ifnd (fun e => absurd rfl e) fun _ => h
theorem r_neSame {z : Str} {H : Hp} {Q : VK} (h : Q (.bl false) H) : rNe (.str z) (.str z) H Q := r_ne rfl (by rw [decide_eq_true rfl]; exact h)
theorem r_eqSame {z : Str} {H : Hp} {Q : VK} (h : Q (.bl true) H) : rEq (.str z) (.str z) H Q := r_eq rfl (by rw [decide_eq_true rfl]; exact h)

/-- what else the top leaves of the exceptions, for the handler -/
structure Ex2 (K : PySem.W.Frag) (mg : Str → Option Value) (O : Ox K mg) : Prop where
  nX : XfC K O.nnC
  nE : ExcC K O.nnC
  tE : ExcC K O.ntC
  k1 : PySem.W.kitOne K (.ref O.nnC) (.ref O.nnC) = some true
  k2 : PySem.W.kitOne K (.ref O.nnC) (.ref O.ntC) = some false
  k3 : PySem.W.kitOne K (.ref O.nnC) (.type "ValueError") = some true
  k4 : PySem.W.kitOne K (.ref O.ntC) (.ref O.nnC) = some false
  k5 : PySem.W.kitOne K (.ref O.ntC) (.ref O.ntC) = some true
  k6 : PySem.W.kitOne K (.ref O.ntC) (.type "ValueError") = some true
def rIsX (K : PySem.W.Frag) (cls : Value) (d : Option Addr) (a : Addr) : List V → Hp → VK → Prop := fun xs H Q => ∃ D, cls = .ref D ∧ ExcC K D ∧ ((d = none ∧ rIsE K D a xs H Q) ∨ ∃ dd, d = some dd ∧ rIsD K D a dd xs H Q)
theorem call_isX {X : Cx} {a : Addr} {cls : Value} {d : Option Addr} {oe : Obj} {pn : List (Addr × Obj)} (hz : Zc cls d oe) (hf : ∃ vs, oe.data = .fields vs) : CallR (X.suite a ((a, oe) :: pn)) (.builtin "isinstance") (rIsX X.K cls d a) := by
  intro pins s σ H xs us Q I r h
  obtain ⟨D, rfl, C, ⟨rfl, h⟩ | ⟨dd, rfl, h⟩⟩ := h
  · exact call_isE C hz hf pins s σ H xs us Q I r h
  · exact call_isD C hz hf pins s σ H xs us Q I r h
section
variable {P : Program} {w : World} {K : PySem.W.Frag} {mg : Str → Option Value} {base : Heap}
def dRef (d : List PyData) : PyData := .tuple [.str "refused", .list [.tuple d], .bool true]
def sp_law_refused (T : Tx K mg) (O : Ox K mg) : Sp := fun vs H Q _ => ∃ (a k : Addr) (m : WA) (es : List Ent) (fs : List Fo) (roots : List Int) (rs : List (Int × Pr)) (n : Int), vs = [.ref a, .int n, .ref k] ∧ WebAt T H a m es fs ∧ KindAt T H k roots rs ∧ es.length ≤ 50000 ∧
  ((∃ (j : Nat) (f : Fo), n = (j : Int) ∧ fs[j]? = some f ∧ (rlF f).length ≠ 1 ∧ ∀ r H', Same H H' → H r = none → Dp K (nw H H') (.ref r) (dRef [.str "NotTree"]) → Q (.ref r) H') ∨
   (¬ (0 ≤ n ∧ n < fs.length) ∧ ∀ r H', Same H H' → H r = none → Dp K (nw H H') (.ref r) (dRef [.str "NoName", .int n]) → Q (.ref r) H'))
theorem ok_law_refused (T : Tx K mg) (O : Ox K mg) (X2 : Ex2 K mg O) : FnOk P w K mg base CX0 7 T.d_law_refused.a T.d_law_refused.fd P_law_refused (sp_law_refused T O) := by
  refine T.d_law_refused.F.ok sc_law_refused (fun vs H Q E h => ?_) (fun cdv A outer s H vs Q E hr h => ?_)
  · obtain ⟨_, _, _, _, _, _, _, _, rfl, _⟩ := h
    rfl
  · obtain ⟨a, k, m, es, fs, roots, rs, n, rfl, hw, hk, hes, kk⟩ := h
    refine ⟨_, (pss_one (ps_try_as (i := 3) (ts := fun a cls d => tSeq (tAsg (tLst tNil) (gName 4)) (tSeq (tIfS (tB (tCB (rIsX K cls d a) (tCons (tVar 3) (tCons (tC (.ref O.nnC)) tNil)))) (tDrop (tBM K "list" rAppend (tVar 4) (tCons (tTup (tCons (tC (.str "NoName")) (tCons (tXf a cls d O.nnC "missing" (tVar 3)) tNil))) tNil))) tNext)
      (tSeq (tIfS (tB (tCB (rIsX K cls d a) (tCons (tVar 3) (tCons (tC (.ref O.ntC)) tNil)))) (tDrop (tBM K "list" rAppend (tVar 4) (tCons (tTup (tCons (tC (.str "NotTree")) tNil)) tNil))) tNext)
      (tRet (tTup (tCons (tC (.str "refused")) (tCons (tVar 4) (tCons (tCB (rIsX K cls d a) (tCons (tVar 3) (tCons (tC (.ty "ValueError")) tNil))) tNil)))))))) rfl rfl sc_law_refused.nd rfl rfl ⟨rfl, by decide, .inl O.peG⟩ takes0
      (fun W pn xe tk _ => (pss_one (ps_ret (pe_tup (pa_cons pe_str (pa_cons (pe_callS (ok_web_breaks T O) (hr.mono (by decide)) rfl T.d_web_breaks.g T.d_web_breaks.F.kp T.d_web_breaks.b (fun σ => passAt tk σ) (pa_cons (pv 0) (pa_cons (pv 1) (pa_cons (pv 2) pa_nil)))) pa_nil))))))
      (fun a oe cls d pn hz hf => by exact (pss_cons (ps_set (i := 4) sc_law_refused.nd rfl (by first | exact Or.inl rfl | exact Or.inr rfl) (pe_lst pa_nil))
        (pss_cons (ps_if (pt_val (pe_callB (call_isX hz hf) (by rfl) T.b_isinstance (by decide +kernel) (pa_cons (pv 3) (pa_cons (pe_glob (v := .ref O.nnC) rfl O.nnG rfl) pa_nil))))
          (pss_one (ps_expr (X := Cx.suite (cxOf CX0 P w K mg base N_law_refused (Str.ofString "_law_refused") (defScope s_law_refused) T.d_law_refused.a cdv A outer s H E).nox a ((a, oe) :: pn)) (pe_bm (X := Cx.suite (cxOf CX0 P w K mg base N_law_refused (Str.ofString "_law_refused") (defScope s_law_refused) T.d_law_refused.a cdv A outer s H E).nox a ((a, oe) :: pn)) PySem.F.plainAttrs_list PySem.F.slot_list_append PySem.F.type_list_append mt_append (pv 4) (pa_cons (pe_tup (pa_cons pe_str (pa_cons (pe_xf (X := (cxOf CX0 P w K mg base N_law_refused (Str.ofString "_law_refused") (defScope s_law_refused) T.d_law_refused.a cdv A outer s H E).nox) (a := a) (pn := pn) X2.nX O.nnF hz hf (pv 3)) pa_nil))) pa_nil)))) pss_nil)
        (pss_cons (ps_if (pt_val (pe_callB (call_isX hz hf) (by rfl) T.b_isinstance (by decide +kernel) (pa_cons (pv 3) (pa_cons (pe_glob (v := .ref O.ntC) rfl O.ntG rfl) pa_nil))))
          (pss_one (ps_expr (X := Cx.suite (cxOf CX0 P w K mg base N_law_refused (Str.ofString "_law_refused") (defScope s_law_refused) T.d_law_refused.a cdv A outer s H E).nox a ((a, oe) :: pn)) (pe_bm (X := Cx.suite (cxOf CX0 P w K mg base N_law_refused (Str.ofString "_law_refused") (defScope s_law_refused) T.d_law_refused.a cdv A outer s H E).nox a ((a, oe) :: pn)) PySem.F.plainAttrs_list PySem.F.slot_list_append PySem.F.type_list_append mt_append (pv 4) (pa_cons (pe_tup (pa_cons pe_str pa_nil)) pa_nil)))) pss_nil)
        (pss_one (ps_ret (pe_tup (pa_cons pe_str (pa_cons (pv 4) (pa_cons (pe_callB (call_isX hz hf) (by rfl) T.b_isinstance (by decide +kernel) (pa_cons (pv 3) (pa_cons (pe_bltn (v := .ty "ValueError") rfl T.b_ValueError rfl rfl) pa_nil))) pa_nil)))))))))))), ?_⟩
    try simp only [nxK, cxK]
    walk_at "rd"
    unfold tCallS
    walk_at "rd"
    refine ⟨a, k, m, es, fs, roots, rs, n, rfl, hw, hk, hes, ?_⟩
    rcases kk with ⟨j, f, rfl, hf, hno, kk⟩ | ⟨hno, kk⟩
    · refine .inr (.inl ⟨j, f, rfl, hf, hno, ?_⟩)
      refine ⟨true, O.ntE, fun _ x hx => ?_, fun q => by cases q⟩
      walk_at "rd"
      intro fo hfo
      walk_at "rd"
      refine ⟨O.ntC, rfl, X2.tE, .inl ⟨rfl, .ref O.nnC, .ref O.nnC, false, rfl, fun u hu => hu, X2.k4, ?_⟩⟩
      walk_at "rd"
      refine iteF ?_
      walk_at "rd"
      refine ⟨O.ntC, rfl, X2.tE, .inl ⟨rfl, .ref O.ntC, .ref O.ntC, true, rfl, fun u hu => hu, X2.k5, ?_⟩⟩
      walk_at "rd"
      refine iteT ?_
      walk_at "rd"
      intro p hp
      have nfp : p ≠ fo := ne_fr upd_same hp
      have fp : H p = none := by walk_at "fr"
      walk_at "rd"
      refine ⟨O.ntC, rfl, X2.tE, .inl ⟨rfl, .ty "ValueError", .type "ValueError", true, rfl, fun u hu => hu, X2.k6, ?_⟩⟩
      walk_at "rd"
      intro r hr2
      have s2 : Same H (upd (upd (upd H fo (.lst [])) p (.tup [.str "NotTree"])) fo (.lst ([] ++ [.ref p]))) := sm_mut (by walk_at "sm") hfo
      have nrf : r ≠ fo := ne_fr upd_same hr2
      have nrp : r ≠ p := ne_fr ((upd_ne nfp).trans upd_same) hr2
      have fr : H r = none := s2.free hr2
      refine kk r _ (s2.trans (sm_up hr2)) fr ?_
      refine .tup (SqT.of ((nw_at fr).trans upd_same)) (.cons (.str _) (.cons (.lst (SqL.of (xs := [.ref p]) ?_) (.cons (.tup (SqT.of (xs := [.str "NotTree"]) ?_) (.cons (.str _) .nil)) .nil)) (.cons (.bl _) .nil)))
      · rw [nw_at hfo, upd_ne nrf.symm, upd_same]
        rfl
      · rw [nw_at fp, upd_ne nrp.symm, upd_ne nfp, upd_same]
    · refine .inr (.inr ⟨hno, fun d H1 s1 hd hd1 => ?_⟩)
      refine ⟨true, O.nnE, fun _ x hx => ?_, fun q => by cases q⟩
      walk_at "rd"
      intro fo hfo
      have nfd : fo ≠ d := ne_fr hd1 hfo
      have ffo : H fo = none := s1.free hfo
      walk_at "rd"
      refine ⟨O.nnC, rfl, X2.nE, .inr ⟨d, rfl, .ref O.nnC, .ref O.nnC, true, _, rfl, fun u hu => hu, X2.k1, (upd_ne nfd.symm).trans hd1, ?_⟩⟩
      walk_at "rd"
      refine iteT ?_
      walk_at "rd"
      unfold tXf
      walk_at "rd"
      refine ⟨rfl, rfl, d, _, .int n, rfl, (upd_ne nfd.symm).trans hd1, rfl, ?_⟩
      walk_at "rd"
      intro p hp
      have nfp : p ≠ fo := ne_fr upd_same hp
      have npd : p ≠ d := ne_fr ((upd_ne nfd.symm).trans hd1) hp
      have fp : H p = none := s1.free (by walk_at "fr")
      walk_at "rd"
      have hd5 : (upd (upd (upd H1 fo (.lst [])) p (.tup [.str "NoName", .int n])) fo (.lst ([] ++ [.ref p]))) d = some (.xd [("missing", .int n)]) := (upd_ne nfd.symm).trans ((upd_ne npd.symm).trans ((upd_ne nfd.symm).trans hd1))
      refine ⟨O.nnC, rfl, X2.nE, .inr ⟨d, rfl, .ref O.ntC, .ref O.ntC, false, _, rfl, fun u hu => hu, X2.k2, hd5, ?_⟩⟩
      walk_at "rd"
      refine iteF ?_
      walk_at "rd"
      refine ⟨O.nnC, rfl, X2.nE, .inr ⟨d, rfl, .ty "ValueError", .type "ValueError", true, _, rfl, fun u hu => hu, X2.k3, hd5, ?_⟩⟩
      walk_at "rd"
      intro r hr2
      have s2 : Same H (upd (upd (upd H1 fo (.lst [])) p (.tup [.str "NoName", .int n])) fo (.lst ([] ++ [.ref p]))) := sm_mut (s1.trans (by walk_at "sm")) ffo
      have nrf : r ≠ fo := ne_fr upd_same hr2
      have nrp : r ≠ p := ne_fr ((upd_ne nfp).trans upd_same) hr2
      have fr : H r = none := s2.free hr2
      refine kk r _ (s2.trans (sm_up hr2)) fr ?_
      refine .tup (SqT.of ((nw_at fr).trans upd_same)) (.cons (.str _) (.cons (.lst (SqL.of (xs := [.ref p]) ?_) (.cons (.tup (SqT.of (xs := [.str "NoName", .int n]) ?_) (.cons (.str _) (.cons (.int _) .nil))) .nil)) (.cons (.bl _) .nil)))
      · rw [nw_at ffo, upd_ne nrf.symm, upd_same]
        rfl
      · rw [nw_at fp, upd_ne nrp.symm, upd_ne nfp, upd_same]
end

section
variable {P : Program} {w : World} {K : PySem.W.Frag} {mg : Str → Option Value} {base : Heap}
theorem WebAt.off {T : Tx K mg} {H : Hp} {a p : Addr} {m : WA} {es : List Ent} {fs : List Fo} {ns : List Int} (h : WebAt T H a m es fs) (hp : H p = some (iLs ns)) : p ≠ m.pa ∧ p ≠ m.da := by
  obtain ⟨dx, vs, h1, h2, h3, h4, h5, h6, h7, h8⟩ := h
  refine ⟨fun e => ?_, fun e => ?_⟩
  · rw [e, h2] at hp
    injection hp with hp
    injection hp with hp
    cases ns with
    | nil => cases hp
    | cons n r => cases hp
  · rw [e, h6] at hp
    cases hp
def sp_law_great (T : Tx K mg) : Sp := fun vs H Q _ => ∃ (p a k ra : Addr) (rv t : V) (m : WA) (es : List Ent) (fs : List Fo) (roots : List Int) (rs : List Rule) (n : Nat) (l : Int) (kf : Fo) (ns : List Int) (G : Hp), vs = [.ref p, .ref a, .int (n : Int), .ref k, .ref ra, rv, t] ∧
  H p = some (iLs ns) ∧ PoolOk ns ∧ Same G H ∧ G p = none ∧ OffW G m ∧ m.na ≠ p ∧ m.ta ≠ p ∧ WebAt T H a m es fs ∧ fs[n]? = some (.cons l kf .nil) ∧ okF (.cons l kf .nil) ∧ szF (.cons l kf .nil) ≤ 14 ∧ es.length ≤ 100 ∧
  KindAt T G k roots (giveL rs 9) ∧ SqL K G ra (roots.map V.int) ∧ Dp K G rv (.list (rs.map dR)) ∧ rs.length = 10 ∧ NodesAt K G t (tabF (-1) 0 (.cons l kf .nil)) ∧ ∀ H' : Hp, Q (.bl true) H'
theorem ok_law_great (T : Tx K mg) (O : Ox K mg) (X2 : Ex2 K mg O) : FnOkG P w K mg base CX0 8 T.d_law_great.a T.d_law_great.fd P_law_great (sp_law_great T) := by
  refine Fun.okG T.d_law_great.F sc_law_great (fun vs H Q E h => ?_) (fun cdv A outer s H vs Q E hg hr h => ?_)
  · obtain ⟨_, _, _, _, _, _, _, _, _, _, _, _, _, _, _, _, rfl, _⟩ := h
    rfl
  · obtain ⟨p, a, k, ra, rv, t, m, es, fs, roots, rs, n, l, kf, ns, G, rfl, hp, hok, sG, gp, off, mp1, mp2, hw, hf, hokf, hsz, hes, hk, hra, hrv, hrs, hnd, kk⟩ := h
    refine ⟨_, ((pss_cons (ps_set (i := 7) sc_law_great.nd rfl (by first | exact Or.inl rfl | exact Or.inr rfl) (pe_ix (r := rIxL K) ix_list (pe_ix (r := rIxL K) ix_list (pv 6) pe_int (fun _ _ => rfl)) pe_int (fun _ _ => rfl)))
  (pss_cons (ps_set (i := 8) sc_law_great.nd rfl (by first | exact Or.inl rfl | exact Or.inr rfl) (pe_ix (r := rIxT K) ix_tup (pe_meth (pv 1) T.Web.cl T.m_Web_parts_of (ok_Web_parts_of T O) (hr.mono (by decide)) T.d_Web_parts_of.b .nil passL (pa_cons (pv 2) pa_nil)) pe_int (fun _ _ => rfl)))
  (pss_cons (ps_set (i := 9) sc_law_great.nd rfl (by first | exact Or.inl rfl | exact Or.inr rfl) (pe_callB (r := cLen K) k_len (by rfl) T.b_len (by decide +kernel) (pa_cons (pv 6) pa_nil)))
  (pss_cons (ps_set (i := 10) sc_law_great.nd rfl (by first | exact Or.inl rfl | exact Or.inr rfl) (pe_callB (r := cLen K) k_len (by rfl) T.b_len (by decide +kernel) (pa_cons (pe_call (ok_law_breaks T) (hr.mono (by decide)) rfl T.d_law_breaks.g T.d_law_breaks.F.kp T.d_law_breaks.b .nil pass0 (pa_cons (pe_lst (pa_cons (pv 7) pa_nil)) (pa_cons (pv 5) (pa_cons (pv 6) pa_nil)))) pa_nil)))
  (pss_cons (ps_set (i := 11) sc_law_great.nd rfl (by first | exact Or.inl rfl | exact Or.inr rfl) (pe_callTy k_int (by rfl) T.b_int (by decide +kernel) (pa_cons (pe_cmpR (r := rIn K false) op_in_seq pe_int (pe_call (ok_law_breaks T) (hr.mono (by decide)) rfl T.d_law_breaks.g T.d_law_breaks.F.kp T.d_law_breaks.b .nil pass0 (pa_cons (pe_lst (pa_cons (pv 7) pa_nil)) (pa_cons (pv 5) (pa_cons (pv 6) pa_nil)))) rfl) pa_nil)))
  (pss_cons (ps_for PassesOwn.never rfl (pi_range1 rfl T.b_range (pa_cons (pe_call (ok_law_draw T) (hr.mono (by decide)) rfl T.d_law_draw.g T.d_law_draw.F.kp T.d_law_draw.b .nil pass0 (pa_cons (pv 0) (pa_cons pe_int pa_nil))) pa_nil)) (pg_name (i := 12) sc_law_great.nd rfl (by first | exact Or.inl rfl | exact Or.inr rfl)) 
    (pss_cons (ps_set (i := 13) sc_law_great.nd rfl (by first | exact Or.inl rfl | exact Or.inr rfl) (pe_op op_add pe_int (pe_call (ok_law_draw T) (hr.mono (by decide)) rfl T.d_law_draw.g T.d_law_draw.F.kp T.d_law_draw.b .nil pass0 (pa_cons (pv 0) (pa_cons pe_int pa_nil)))))
    (pss_cons (ps_set (i := 14) sc_law_great.nd rfl (by first | exact Or.inl rfl | exact Or.inr rfl) (pe_ix (r := rIxL K) ix_list (pe_ix (r := rIxL K) ix_list (pv 6) (pe_call (ok_law_draw T) (hr.mono (by decide)) rfl T.d_law_draw.g T.d_law_draw.F.kp T.d_law_draw.b .nil pass0 (pa_cons (pv 0) (pa_cons (pe_callB (r := cLen K) k_len (by rfl) T.b_len (by decide +kernel) (pa_cons (pv 6) pa_nil)) pa_nil))) (fun _ _ => rfl)) pe_int (fun _ _ => rfl)))
    (pss_cons (ps_set (i := 15) sc_law_great.nd rfl (by first | exact Or.inl rfl | exact Or.inr rfl) pe_int)
    (pss_cons (ps_for PassesOwn.never rfl (pi_range1 rfl T.b_range (pa_cons (pv 13) pa_nil)) (pg_name (i := 16) sc_law_great.nd rfl (by first | exact Or.inl rfl | exact Or.inr rfl)) 
      (pss_one (ps_set (i := 15) sc_law_great.nd rfl (by first | exact Or.inl rfl | exact Or.inr rfl) (pe_meth (pv 1) T.Web.cl T.m_Web_forest (ok_Web_forest T O) (hr.mono (by decide)) T.d_Web_forest.b .nil pass0 (pa_cons (pv 7) (pa_cons (pv 8) (pa_cons (pv 15) pa_nil)))))))
    (pss_cons (ps_set (i := 11) sc_law_great.nd rfl (by first | exact Or.inl rfl | exact Or.inr rfl) (pe_call (ok_law_own T) (hr.mono (by decide)) rfl T.d_law_own.g T.d_law_own.F.kp T.d_law_own.b .nil pass0 (pa_cons (pv 5) (pa_cons (pv 14) (pa_cons (pv 13) (pa_cons (pv 7) pa_nil))))))
    (pss_cons (ps_set (i := 10) sc_law_great.nd rfl (by first | exact Or.inl rfl | exact Or.inr rfl) (pe_op op_add (pv 11) (pe_op op_mul (pv 13) (pv 10))))
    (pss_cons (ps_set (i := 9) sc_law_great.nd rfl (by first | exact Or.inl rfl | exact Or.inr rfl) (pe_op op_add pe_int (pe_op op_mul (pv 13) (pv 9))))
    (pss_cons (ps_set (i := 2) sc_law_great.nd rfl (by first | exact Or.inl rfl | exact Or.inr rfl) (pe_meth (pv 1) T.Web.cl T.m_Web_forest (ok_Web_forest T O) (hr.mono (by decide)) T.d_Web_forest.b .nil pass0 (pa_cons (pv 14) (pa_cons (pv 15) (pa_cons pe_int pa_nil)))))
    (pss_cons (ps_set (i := 7) sc_law_great.nd rfl (by first | exact Or.inl rfl | exact Or.inr rfl) (pv 14))
    (pss_one (ps_set (i := 8) sc_law_great.nd rfl (by first | exact Or.inl rfl | exact Or.inr rfl) (pv 15)))))))))))))
  (pss_cons (ps_set (i := 17) sc_law_great.nd rfl (by first | exact Or.inl rfl | exact Or.inr rfl) (pe_op op_add (pv 10) (pe_callTy k_int (by rfl) T.b_int (by decide +kernel) (pa_cons (pe_and (pe_cmpR op_eq (pv 11) pe_int (nomark _)) (pe_one (pe_cmpR (r := rIn K true) op_notIn_seq (pv 7) (pv 4) rfl))) pa_nil))))
  (pss_cons (ps_set (i := 18) sc_law_great.nd rfl (by first | exact Or.inl rfl | exact Or.inr rfl) (pe_lst (pa_cons (pe_meth (pv 1) T.Web.cl T.m_Web_node_count (ok_Web_node_count T O) (hr.mono (by decide)) T.d_Web_node_count.b .nil passL (pa_cons (pv 2) pa_nil)) (pa_cons (pe_call (ok_web_breaks T O) (hr.mono (by decide)) rfl T.d_web_breaks.g T.d_web_breaks.F.kp T.d_web_breaks.b .nil passL (pa_cons (pv 1) (pa_cons (pv 2) (pa_cons (pv 3) pa_nil)))) pa_nil))))
  (pss_cons (ps_if (pt_cmpR op_ne (pe_callB (r := rRepr K) (k_repr hg hr.units) (by rfl) T.b_repr (by decide +kernel) (pa_cons (pv 18) pa_nil)) (pe_callB (r := rRepr K) (k_repr hg hr.units) (by rfl) T.b_repr (by decide +kernel) (pa_cons (pe_lst (pa_cons (pv 9) (pa_cons (pv 17) pa_nil))) pa_nil)) (nomark _)) 
    (pss_one (ps_ret pe_bl)) pss_nil)
  (pss_cons (ps_set (i := 19) sc_law_great.nd rfl (by first | exact Or.inl rfl | exact Or.inr rfl) (pe_meth (pv 1) T.Web.cl T.m_Web_forest (ok_Web_forest T O) (hr.mono (by decide)) T.d_Web_forest.b .nil pass0 (pa_cons (pv 7) (pa_cons (pv 8) (pa_cons (pv 2) pa_nil)))))
  (pss_cons (ps_set (i := 18) sc_law_great.nd rfl (by first | exact Or.inl rfl | exact Or.inr rfl) (pe_lst (pa_cons (pe_call (ok_law_refused T O X2) (hr.mono (by decide)) rfl T.d_law_refused.g T.d_law_refused.F.kp T.d_law_refused.b .nil pass0 (pa_cons (pv 1) (pa_cons (pv 19) (pa_cons (pv 3) pa_nil)))) (pa_cons (pe_call (ok_law_refused T O X2) (hr.mono (by decide)) rfl T.d_law_refused.g T.d_law_refused.F.kp T.d_law_refused.b .nil pass0 (pa_cons (pv 1) (pa_cons pe_int (pa_cons (pv 3) pa_nil)))) pa_nil))))
  (pss_one (ps_ret (pe_cmpR op_eq (pe_callB (r := rRepr K) (k_repr hg hr.units) (by rfl) T.b_repr (by decide +kernel) (pa_cons (pv 18) pa_nil)) (pe_callB (r := rRepr K) (k_repr hg hr.units) (by rfl) T.b_repr (by decide +kernel) (pa_cons (pe_op op_rep (pe_lst (pa_cons (pe_tup (pa_cons pe_str (pa_cons (pe_lst (pa_cons (pe_tup (pa_cons pe_str pa_nil)) pa_nil)) (pa_cons pe_bl pa_nil)))) pa_nil)) pe_int) pa_nil)) (nomark _)))))))))))))))), ?_⟩
    try simp only [nxK, cxK]
    have ndH := hnd.up sG
    obtain ⟨ta, xs, rfl, hta, hx⟩ := nd_list hnd
    have htaH := sG.seq hta
    have hpl := tabF_len (.cons l kf .nil) (-1) 0
    have hx14 : 1 ≤ xs.length ∧ xs.length ≤ 14 := by
      rw [hx, hpl]
      exact ⟨by simp only [szF]; omega, hsz⟩
    have hlab0 : labA (tabF (-1) 0 (.cons l kf .nil)) 0 = l := rfl
    obtain ⟨dx, us, h1, h2, h3, h4, h5, h6, h7, h8⟩ := id hw
    have hfl := h8.len
    have hn0 : n ≠ 0 := fun e => by
      rw [e, h8.h0] at hf
      cases hf
    walk_at "rd"
    refine r_nd ndH (by decide) (by rw [hpl]; simp only [szF]; omega) fun u hu => ?_
    walk_at "rd"
    refine r_nd1 hu ?_
    walk_at "rd"
    refine ⟨a, m, es, fs, n, rfl, hw, (List.getElem?_eq_some_iff.mp hf).1, fun e => absurd e hn0, fun i e b hni hei hb => ?_⟩
    obtain ⟨l', uk, ur⟩ := e
    obtain ⟨hl19, huk, hur, fk, fr, hfk, hfr, hfy⟩ := h8.hs i l' uk ur hei
    rw [← hni, hf] at hfy
    cases hfy
    have hbT : SqT K H b [.int l, .int (uk : Int), .int (ur : Int)] := SqT.of hb
    walk_at "rd"
    refine r_ixT hbT (by decide) (by simp) fun v hv => ?_
    obtain rfl := Option.some.inj hv
    walk_at "rd"
    intro q1 hq1
    have hlok : LabOk (tabF (-1) 0 (.cons l kf .nil)) := fun j hj => by
      have e := List.getElem?_eq_getElem hj
      rw [labA_at e]
      exact tabF_lab _ _ _ hokf _ (List.mem_of_getElem? e)
    have hpl2 : (tabF (-1) 0 (.cons l kf .nil)).length ≤ 1000 := by omega
    have sq1 : Same H (upd H q1 (.lst [.int l])) := sm_up hq1
    walk_at "rd"
    refine ⟨q1, [l], rv, .ref ta, rs, _, rfl, SqL.of upd_same, dp_up (sG.trans sq1) hrv, hrs, ndH.up sq1, hpl2, hlok, fun b1 H1 s1 hb1 hb11 => ?_⟩
    rw [brkL_eq hlok] at hb11
    have s01 : Same H H1 := sq1.trans s1
    have hb1q : SqL K H1 b1 ((brkKR [l] (giveL rs 9) (tabF (-1) 0 (.cons l kf .nil))).map V.int) := SqL.of hb11
    walk_at "rd"
    rw [List.length_map, brkKR_len]
    intro q2 hq2
    have sq2 : Same H1 (upd H1 q2 (.lst [.int l])) := sm_up hq2
    walk_at "rd"
    refine ⟨q2, [l], rv, .ref ta, rs, _, rfl, SqL.of upd_same, dp_up (sG.trans (s01.trans sq2)) hrv, hrs, ndH.up (s01.trans sq2), hpl2, hlok, fun b2 H2 s2 hb2 hb22 => ?_⟩
    rw [brkL_eq hlok] at hb22
    have s02 : Same H H2 := s01.trans (sq2.trans s2)
    have hb2q : SqL K H2 b2 ((brkKR [l] (giveL rs 9) (tabF (-1) 0 (.cons l kf .nil))).map V.int) := SqL.of hb22
    have hp2 : H2 p = some (iLs ns) := s02 _ _ hp
    walk_at "rd"
    refine ⟨p, ns, 30, rfl, hp2, hok, by decide, by decide, fun d ms H3 d0 d1 hok3 b3 hp3 => ?_⟩
    have sG3 : Same G H3 := sm_but (sG.trans s02) gp b3
    have hw3 : WebAt T H3 a m es fs := (hw.up s02).but hp2 mp1 mp2 b3
    have hans : ansB [l] (giveL rs 9) (.cons l kf .nil) = (brF (giveL rs 9) (.cons l kf .nil) : Int) := by
      show (brF (giveL rs 9) (.cons l kf .nil) : Int) + (if fitB (giveL rs 9) (.cons l kf .nil) = true ∧ l ∉ [l] then 1 else 0) = _
      rw [if_neg (fun q => q.2 (List.mem_singleton.mpr rfl)), Int.add_zero]
    have hown : (if decide ((0 : Int) ∈ brkKR [l] (giveL rs 9) (tabF (-1) 0 (.cons l kf .nil))) = true then (1 : Int) else 0) = if fitB (giveL rs 9) (.cons l kf .nil) = true then 0 else 1 := by
      cases hb : fitB (giveL rs 9) (.cons l kf .nil) with
      | false => rw [decide_eq_true ((brk_own _ _ _).mpr hb)]; rfl
      | true =>
        rw [decide_eq_false (fun z => by
          have := (brk_own _ _ _).mp z
          rw [hb] at this
          cases this)]
        rfl
    have hxl : (xs.length : Int) = (szF (.cons l kf .nil) : Int) := by rw [hx, hpl]
    walk_at "rd"
    refine ⟨d, rfl, by omega, by omega, forJ walkR ⟨fun i σ H' => ∃ (ms' : List Int) (es' : List Ent) (fs' : List Fo) (nn un : Nat) (top : Int) (uf : Fo) (v12 v13 v14 v15 v16 : Option V),
      σ = [some (.ref p), some (.ref a), some (.int (nn : Int)), some (.ref k), some (.ref ra), some rv, some (.ref ta), some (.int top), some (.int (un : Int)), some (.int (szF (.cons top uf .nil) : Int)), some (.int (brF (giveL rs 9) (.cons top uf .nil) : Int)),
        some (.int (if fitB (giveL rs 9) (.cons top uf .nil) = true then 0 else 1)), v12, v13, v14, v15, v16, none, none, none] ∧ Same G H' ∧ H' p = some (iLs ms') ∧ PoolOk ms' ∧ WebAt T H' a m es' fs' ∧ fs'[nn]? = some (.cons top uf .nil) ∧ fs'[un]? = some uf ∧
      okF (.cons top uf .nil) ∧ szF (.cons top uf .nil) + 1 ≤ 15 * 3 ^ i ∧ es'.length ≤ 100 + 4 * i, ?_, fun _ _ _ _ _ => trivial, ?_, ?_⟩⟩
    · refine ⟨ms, es, fs, n, uk, l, kf, none, none, none, none, none, ?_, sG3, hp3, hok3, hw3, hf, hfk, hokf, by omega, by omega⟩
      rw [hans, hown, hxl]
      rfl
    · rintro i x σ H4 H5 hi ⟨ms4, es4, fs4, nn, un, top, uf, v12, v13, v14, v15, v16, rfl, sG4, hp4, hok4, hw4, hfn, hfu, hokF, hszF, hes4⟩ ⟨rfl, rfl⟩
      have hi30 : i < 30 := by omega
      walk_at "rd"
      refine ⟨p, ms4, 3, rfl, hp4, hok4, by decide, by decide, fun e1 ms5 H6 e10 e11 hok5 b5 hp5 => ?_⟩
      have sG6 : Same G H6 := sm_but sG4 gp b5
      have hw6 := hw4.but hp4 mp1 mp2 b5
      have hta6 := sG6.seq hta
      walk_at "rd"
      refine ⟨p, ms5, _, rfl, hp5, hok5, by omega, by omega, fun e2 ms6 H7 e20 e21 hok6 b6 hp6 => ?_⟩
      have sG7 : Same G H7 := sm_but sG6 gp b6
      have hw7 := hw6.but hp5 mp1 mp2 b6
      have nd7 := hnd.up sG7
      refine r_nd nd7 e20 (by omega) fun u hu => ?_
      walk_at "rd"
      refine r_nd1 hu ?_
      walk_at "rd"
      have hla := hlok e2.toNat (by omega)
      generalize labA (tabF (-1) 0 (.cons l kf .nil)) e2.toNat = la at *
      have ap : ∀ {fs more : List Fo} {n : Nat} {f : Fo}, fs[n]? = some f → (fs ++ more)[n]? = some f := fun {fs more n f} e => by
        rw [List.getElem?_append_left (List.getElem?_eq_some_iff.mp e).1]
        exact e
      obtain ⟨mn, hmn⟩ : ∃ mn : Nat, (1 : Int) + e1 = (mn : Int) := ⟨(1 + e1).toNat, by omega⟩
      have hmn1 : 1 ≤ mn ∧ mn ≤ 3 := by omega
      rw [hmn]
      have hpow : 15 * 3 ^ i ≤ 15 * 3 ^ 29 := Nat.mul_le_mul_left _ (Nat.pow_le_pow_right (by decide) (by omega))
      refine ⟨(mn : Int), rfl, by omega, by omega, forJ walkR ⟨fun j σ H' => ∃ (es5 : List Ent) (fs5 : List Fo) (rn : Nat) (w16 : Option V),
        σ = [some (.ref p), some (.ref a), some (.int (nn : Int)), some (.ref k), some (.ref ra), some rv, some (.ref ta), some (.int top), some (.int (un : Int)), some (.int (szF (.cons top uf .nil) : Int)), some (.int (brF (giveL rs 9) (.cons top uf .nil) : Int)),
          some (.int (if fitB (giveL rs 9) (.cons top uf .nil) = true then 0 else 1)), some (.int (i : Int)), some (.int (mn : Int)), some (.int la), some (.int (rn : Int)), w16, none, none, none] ∧ Same G H' ∧ H' p = some (iLs ms6) ∧ WebAt T H' a m es5 fs5 ∧ fs5[un]? = some uf ∧ fs5[rn]? = some (repF top uf j) ∧ es5.length ≤ es4.length + j, ?_, fun _ _ _ _ _ => trivial, ?_, ?_⟩⟩
      · obtain ⟨_, _, _, _, _, _, _, _, _, w8⟩ := id hw7
        exact ⟨es4, fs4, 0, v16, rfl, sG7, hp6, hw7.but hp6 mp1 mp2 (But.refl _), hfu, w8.h0, by omega⟩
      · rintro j x σ H8 H9 hj ⟨es5, fs5, rn, w16, rfl, sG8, hp8, hw8, hfu8, hfr8, hes8⟩ ⟨rfl, rfl⟩
        have hj' : j < mn := by omega
        obtain ⟨_, _, a1, _, _, _, _, _, _, _⟩ := id hw8
        have hszj : szF (.cons top uf (repF top uf j)) ≤ 2 ^ 59 := by
          have e : szF (.cons top uf (repF top uf j)) = (j + 1) * szF (.cons top uf .nil) := repF_sz top uf (j + 1)
          rw [e]
          have h3 : (j + 1) * szF (.cons top uf .nil) ≤ 3 * (15 * 3 ^ 29) := Nat.mul_le_mul (by omega) (by omega)
          exact Nat.le_trans h3 (by decide)
        walk_at "rd"
        refine ⟨a, m, es5, fs5, top, un, rn, uf, repF top uf j, rfl, hw8, hokF.1, hfu8, hfr8, hszj, by omega, fun n2 es6 fs6 H10 b10 hw10 more10 hn10 hes10 => ?_⟩
        obtain ⟨more, rfl⟩ := more10
        walk_at "rd"
        have hp10 : H10 p = some (iLs ms6) := b10 p _ (hw8.off hp8).1 mp1.symm mp2.symm (hw8.off hp8).2 hp8
        exact ⟨es6, fs5 ++ more, n2, _, rfl, sm_butW sG8 off b10, hp10, hw10, ap hfu8, hn10, by omega⟩
      · rintro σ H8 ⟨es5, fs5, rn, w16, rfl, sG8, hp8, hw8, hfu8, hfr8, hes8⟩
        rw [Int.toNat_natCast] at hfr8 hes8
        obtain ⟨_, _, a1, _, _, _, _, _, _, w8⟩ := id hw8
        have hfit := great_fit (giveL rs 9) la top uf mn hmn1.1
        rw [giveL_at, if_pos (by omega)] at hfit
        have hbr := great_br (giveL rs 9) la top uf mn
        have hsz2 := great_sz la top uf mn
        walk_at "rd"
        refine ⟨rv, rs, la, _, top, rfl, dp_up sG8 hrv, hrs, by omega, by omega, ?_⟩
        rw [hfit]
        walk_at "rd"
        refine r_mul (.inl ⟨by omega, by omega⟩) ?_
        walk_at "rd"
        refine r_mul (.inl ⟨by omega, by omega⟩) ?_
        walk_at "rd"
        have hszn : szF (.cons la (repF top uf mn) .nil) + 1 ≤ 15 * 3 ^ (i + 1) := by
          rw [hsz2, Nat.pow_succ]
          have h3 : mn * szF (.cons top uf .nil) ≤ 3 * szF (.cons top uf .nil) := Nat.mul_le_mul_right _ hmn1.2
          omega
        refine ⟨a, m, es5, fs5, la, rn, 0, repF top uf mn, .nil, rfl, hw8, by omega, hfr8, w8.h0, ?_, by omega, fun n2 es6 fs6 H10 b10 hw10 more10 hn10 hes10 => ?_⟩
        · have hp2 : 15 * 3 ^ (i + 1) ≤ 15 * 3 ^ 30 := Nat.mul_le_mul_left _ (Nat.pow_le_pow_right (by decide) (by omega))
          exact Nat.le_trans (Nat.le_trans (Nat.le_of_succ_le hszn) hp2) (by decide)
        obtain ⟨more, rfl⟩ := more10
        walk_at "rd"
        have hp10 : H10 p = some (iLs ms6) := b10 p _ (hw8.off hp8).1 mp1.symm mp2.symm (hw8.off hp8).2 hp8
        refine ⟨ms6, es6, fs5 ++ more, n2, rn, la, repF top uf mn, some (.int (i : Int)), some (.int (mn : Int)), some (.int la), some (.int (rn : Int)), w16, ?_, sm_butW sG8 off b10, hp10, hok6, hw10, hn10, ap hfr8, ⟨by omega, repF_ok hokF mn, trivial⟩, hszn, by omega⟩
        have ei : ((if fitB (giveL rs 9) (.cons la (repF top uf mn) .nil) = true then (0 : Int) else 1) + (mn : Int) * (brF (giveL rs 9) (.cons top uf .nil) : Int)) = ((brF (giveL rs 9) (.cons la (repF top uf mn) .nil) : Nat) : Int) := by
          rw [hbr, Int.natCast_add, Int.natCast_mul]
          split <;> simp <;> omega
        have en : (1 : Int) + (mn : Int) * (szF (.cons top uf .nil) : Int) = ((szF (.cons la (repF top uf mn) .nil) : Nat) : Int) := by
          rw [hsz2, Int.natCast_add, Int.natCast_mul]
          rfl
        rw [ei, en]
        rfl
    · rintro σ H4 ⟨ms4, es4, fs4, nn, un, top, uf, v12, v13, v14, v15, v16, rfl, sG4, hp4, hok4, hw4, hfn, hfu, hokF, hszF, hes4⟩
      have raH := sG4.seq hra
      obtain ⟨_, _, a1, _, _, _, _, _, _, w8⟩ := id hw4
      walk_at "rd"
      have hans2 : ansB roots (giveL rs 9) (.cons top uf .nil) = (brF (giveL rs 9) (.cons top uf .nil) : Int) + (if fitB (giveL rs 9) (.cons top uf .nil) = true ∧ top ∉ roots then 1 else 0) := rfl
      cases hfb : fitB (giveL rs 9) (.cons top uf .nil)
      case' false =>
        rw [hfb, if_neg (fun q => by cases q.1)] at hans2
        refine iteF ?_
        walk_at "rd"
      case' true =>
        refine iteT ?_
        walk_at "rd"
        have e9 : ((brF (giveL rs 9) (.cons top uf .nil) : Int) + (if (!decide (top ∈ roots)) = true then 1 else 0)) = ansB roots (giveL rs 9) (.cons top uf .nil) := by
          rw [hans2, hfb]
          by_cases hm : top ∈ roots
          · simp [hm]
          · simp [hm]
        rw [e9]
      case' false =>
        rw [show (brF (giveL rs 9) (.cons top uf .nil) : Int) + (if false = true then 1 else 0) = ansB roots (giveL rs 9) (.cons top uf .nil) from by rw [hans2]; rfl]
      all_goals
        refine ⟨a, m, es4, fs4, (nn : Int), rfl, hw4, .inl ⟨nn, _, rfl, hfn, ?_⟩⟩
        walk_at "rd"
        refine ⟨a, k, m, es4, fs4, roots, giveL rs 9, (nn : Int), rfl, hw4, hk.up sG4, by omega, .inl ⟨nn, _, rfl, hfn, rfl, fun H5 s5 => ?_⟩⟩
        walk_at "rd"
        intro td htd
        have htdq : SqL K (upd H5 td (.lst [.int (szF (.cons top uf .nil) : Int), .int (ansB roots (giveL rs 9) (.cons top uf .nil))])) td [.int (szF (.cons top uf .nil) : Int), .int (ansB roots (giveL rs 9) (.cons top uf .nil))] := SqL.of upd_same
        walk_at "rd"
        have hab := ans_bd roots (giveL rs 9) top uf
        have hszb : 15 * 3 ^ 30 < 10 ^ 16 := by decide
        have hszn : szF (.cons top uf .nil) < 10 ^ 16 := by
          have hdn : d.toNat ≤ 30 := by omega
          have h3 : 15 * 3 ^ d.toNat ≤ 15 * 3 ^ 30 := Nat.mul_le_mul_left _ (Nat.pow_le_pow_right (by decide) hdn)
          omega
        have hdd : sml (.list [.int (szF (.cons top uf .nil) : Int), .int (ansB roots (giveL rs 9) (.cons top uf .nil))]) = true := sml2 (by omega) (by omega) hab.1 (by omega)
        refine r_reprS (.lst htdq (.cons (.int _) (.cons (.int _) .nil))) hdd (by simp [PyData.depth, PyData.depthAll]) (by simp [PyData.bulk, PyData.bulkAll]) ?_
        walk_at "rd"
        intro tn htn
        walk_at "rd"
        refine r_reprS (.lst (SqL.of upd_same) (.cons (.int _) (.cons (.int _) .nil))) hdd (by simp [PyData.depth, PyData.depthAll]) (by simp [PyData.bulk, PyData.bulkAll]) ?_
        refine r_ne rfl ?_
        walk_at "rd"
        refine iteNS ?_
        walk_at "rd"
        have s46 := fun o2 : HO => (s5.trans (sm_up htd)).trans (sm_up (o := o2) htn)
        refine ⟨a, m, es4, fs4, top, un, nn, uf, .cons top uf .nil, rfl, hw4.up (s46 _), hokF.1, hfu, hfn, ?_, by omega, fun n2 es6 fs6 H10 b10 hw10 more10 hn10 hes10 => ?_⟩
        · have e : szF (.cons top uf (.cons top uf .nil)) = 2 * szF (.cons top uf .nil) := by
            simp only [szF]
            omega
          rw [e]
          have : 2 * 10 ^ 16 ≤ 2 ^ 59 := by decide
          omega
        have sG10 := sm_butW (sG4.trans (s46 _)) off b10
        obtain ⟨_, _, _, _, _, _, _, _, _, w10⟩ := id hw10
        walk_at "rd"
        refine ⟨a, k, m, es6, fs6, roots, giveL rs 9, (n2 : Int), rfl, hw10, hk.up sG10, by omega, .inl ⟨n2, _, rfl, hn10, by simp [rlF], fun r1 H11 s11 hr1 hd1 => ?_⟩⟩
        walk_at "rd"
        refine ⟨a, k, m, es6, fs6, roots, giveL rs 9, 0, rfl, hw10.up s11, hk.up (sG10.trans s11), by omega, .inl ⟨0, .nil, rfl, w10.h0, by decide, fun r2 H12 s12 hr2 hd2 => ?_⟩⟩
        walk_at "rd"
        intro tl htl
        have hd1' : Dp K (upd H12 tl (.lst [.ref r1, .ref r2])) (.ref r1) (dRef [.str "NotTree"]) := dp_up (nw_le.trans (s12.trans (sm_up htl))) hd1
        have hd2' : Dp K (upd H12 tl (.lst [.ref r1, .ref r2])) (.ref r2) (dRef [.str "NotTree"]) := dp_up (nw_le.trans (sm_up htl)) hd2
        walk_at "rd"
        refine r_reprS (.lst (SqL.of upd_same) (.cons hd1' (.cons hd2' .nil))) (by decide +kernel) (by decide +kernel) (by decide +kernel) ?_
        walk_at "rd"
        intro q1 hq1
        walk_at "rd"
        intro q2 hq2
        walk_at "rd"
        intro q3 hq3
        walk_at "rd"
        intro q4 hq4
        walk_at "rd"
        intro q5 hq5
        walk_at "rd"
        refine r_reprS (d := .list [dRef [.str "NotTree"], dRef [.str "NotTree"]]) (.lst (SqL.of upd_same) (.cons (dp_up (sm_up hq5) (dp_up (sm_up hq4) (.tup (SqT.of upd_same) (.cons (.str _) (.cons (dp_up (sm_up hq3) (.lst (SqL.of upd_same) (.cons (dp_up (sm_up hq2) (.tup (SqT.of upd_same) (.cons (.str _) .nil))) .nil))) (.cons (.bl _) .nil))))))
          (.cons (dp_up (sm_up hq5) (dp_up (sm_up hq4) (.tup (SqT.of upd_same) (.cons (.str _) (.cons (dp_up (sm_up hq3) (.lst (SqL.of upd_same) (.cons (dp_up (sm_up hq2) (.tup (SqT.of upd_same) (.cons (.str _) .nil))) .nil))) (.cons (.bl _) .nil)))))) .nil))) (by decide +kernel) (by decide +kernel) (by decide +kernel) ?_
        refine r_eq rfl ?_
        rw [decide_eq_true rfl]
        exact kk _
end

/-! ### what is read of the kind and the tree, away from a list; the rules given -/
section
variable {K : PySem.W.Frag} {mg : Str → Option Value}
mutual
def noL : PyData → Bool
  | .tuple xs => noLs xs
  | .list _ | .dict _ => false
  | _ => true
def noLs : List PyData → Bool
  | [] => true
  | x :: xs => noL x && noLs xs
end
theorem sqt_off {H : Hp} {p a : Addr} {xs ys : List V} (h : SqT K H a xs) (hp : H p = some (.lst ys)) : SqT K (wo H p) a xs := by
  rcases h with (h | ⟨o, h⟩) | h
  · exact .inl (.inl (by rw [wo_ne (ne_of h hp (by intro z; cases z))]; exact h))
  · exact .inl (.inr ⟨o, by rw [wo_ne (ne_of h hp (by intro z; cases z))]; exact h⟩)
  · exact .inr h
mutual
theorem dp_off {H : Hp} {p : Addr} {ys : List V} (hp : H p = some (.lst ys)) : ∀ {v : V} {d : PyData}, Dp K H v d → noL d = true → Dp K (wo H p) v d
  | _, _, .non, _ => .non
  | _, _, .bl b, _ => .bl b
  | _, _, .int i, _ => .int i
  | _, _, .str x, _ => .str x
  | _, _, .lst h a, n => by simp [noL] at n
  | _, _, .tup h a, n => .tup (sqt_off h hp) (dps_off hp a (by simpa only [noL] using n))
theorem dps_off {H : Hp} {p : Addr} {ys : List V} (hp : H p = some (.lst ys)) : ∀ {vs : List V} {ds : List PyData}, DpAll K H vs ds → noLs ds = true → DpAll K (wo H p) vs ds
  | _, _, .nil, _ => .nil
  | _, _, .cons h t, n => by
    simp only [noLs, Bool.and_eq_true] at n
    exact .cons (dp_off hp h n.1) (dps_off hp t n.2)
end
theorem noLs_int : ∀ ns : List Int, noLs (ns.map PyData.int) = true
  | [] => rfl
  | n :: r => by
    rw [List.map_cons]
    simp only [noLs, noL, Bool.true_and]
    exact noLs_int r
theorem noL_TR (p : Pr) : noL (dTR p) = true := by
  obtain ⟨m, ls⟩ := p
  cases m with
  | none => simp only [dTR, dTM, noL, noLs, noLs_int, Bool.and_true]
  | some ms => simp only [dTR, dTM, noL, noLs, noLs_int, Bool.and_true]
theorem kvd_off {H : Hp} {p : Addr} {ys : List V} (hp : H p = some (.lst ys)) : ∀ {kvs : List (Key × V)} {es : List (Int × Pr)}, KvD K H kvs es → KvD K (wo H p) kvs es
  | _, _, .nil => .nil
  | _, _, .cons h t => .cons (dp_off hp h (noL_TR _)) (kvd_off hp t)
theorem KindAt.off {T : Tx K mg} {H : Hp} {a p : Addr} {ys : List V} {roots : List Int} {es : List (Int × Pr)} (h : KindAt T H a roots es) (hp : H p = some (.lst ys)) : KindAt T (wo H p) a roots es :=
  let ⟨dx, ra, da, kvs, h1, h2, h3, h4⟩ := h
  ⟨dx, ra, da, kvs, by rw [wo_ne (ne_of h1 hp (by intro z; cases z))]; exact h1, sqt_off h2 hp, by rw [wo_ne (ne_of h3 hp (by intro z; cases z))]; exact h3, kvd_off hp h4⟩
theorem noLs_map {α : Type} {f : α → PyData} (h : ∀ x, noL (f x) = true) : ∀ l : List α, noLs (l.map f) = true
  | [] => rfl
  | x :: r => by
    rw [List.map_cons]
    simp only [noLs, h x, Bool.true_and]
    exact noLs_map h r
theorem TreeAt.off {T : Tx K mg} {H : Hp} {a p : Addr} {ys : List V} {ps : List (Int × Int)} (h : TreeAt T H a ps) (hp : H p = some (.lst ys)) : TreeAt T (wo H p) a ps := by
  obtain ⟨dx, aa, ma, ba, h1, h2, h3, h4⟩ := h
  refine ⟨dx, aa, ma, ba, by rw [wo_ne (ne_of h1 hp (by intro z; cases z))]; exact h1, sqt_off h2 hp, sqt_off h3 hp, dp_off hp h4 ?_⟩
  simp only [noL]
  exact noLs_map (fun v => by simp only [dTI, noL, noLs_int]) _
end
theorem giveL_len (rs : List Rule) : ∀ n : Nat, (giveL rs n).length ≤ n
  | 0 => Nat.le_refl _
  | n + 1 => by
    have := giveL_len rs n
    unfold giveL
    rw [List.length_append]
    cases ruleA rs ((n + 1 : Nat) : Int) with
    | none => simp; omega
    | some p => simp; omega
theorem giveL_asc (rs : List Rule) : ∀ n : Nat, (giveL rs n).Pairwise fun a b => a.1 < b.1
  | 0 => .nil
  | n + 1 => by
    unfold giveL
    refine List.pairwise_append.mpr ⟨giveL_asc rs n, ?_, fun x hx y hy => ?_⟩
    · cases ruleA rs ((n + 1 : Nat) : Int) with
      | none => exact .nil
      | some p => exact List.pairwise_singleton _ _
    · have h1 := (giveL_lt rs n x hx).2.1
      cases hr : ruleA rs ((n + 1 : Nat) : Int) with
      | none =>
        rw [hr] at hy
        cases hy
      | some p =>
        rw [hr] at hy
        obtain rfl := List.mem_singleton.mp hy
        show x.1 < ((n + 1 : Nat) : Int)
        omega
theorem giveL_good {rs : List Rule} (h : RsOk rs) : GoodEs (giveL rs 9) := ⟨giveL_asc rs 9, fun e he => by
  obtain ⟨q1, q2, q3⟩ := giveL_lt rs 9 e he
  exact ⟨⟨q1, q2⟩, by rw [← q3]; exact h e.1⟩⟩
theorem wo_nn {H : Hp} {p x : Addr} (h : H x = none) : wo H p x = none := by
  by_cases e : x = p
  · rw [e]
    exact wo_at
  · rw [wo_ne e]
    exact h
theorem smlAll_int : ∀ ns : List Int, (∀ n ∈ ns, n.natAbs < 10 ^ 20) → smlAll (ns.map PyData.int) = true
  | [], _ => by simp only [List.map_nil, smlAll]
  | n :: r, h => by
    rw [List.map_cons]
    simp only [smlAll, sml, Bool.and_eq_true, decide_eq_true_eq]
    exact ⟨h n List.mem_cons_self, smlAll_int r fun x hx => h x (List.mem_cons_of_mem _ hx)⟩
theorem bulkAll_int : ∀ ns : List Int, PyData.bulkAll (ns.map PyData.int) = ns.length
  | [] => by simp only [List.map_nil, PyData.bulkAll, List.length_nil]
  | n :: r => by
    rw [List.map_cons]
    simp only [PyData.bulkAll, PyData.bulk, List.length_cons, bulkAll_int r]
    omega
theorem depthAll_int : ∀ ns : List Int, PyData.depthAll (ns.map PyData.int) = 0
  | [] => by simp only [List.map_nil, PyData.depthAll]
  | n :: r => by
    rw [List.map_cons]
    simp only [PyData.depthAll, PyData.depth, depthAll_int r]
    rfl
theorem asc_sml {lo hi : Int} {ns : List Int} (h : AscB lo hi ns) (h0 : 0 ≤ lo) (h1 : hi ≤ 1000) : smlAll (ns.map PyData.int) = true := smlAll_int ns fun n hn => by
  have := h.2 n hn
  omega
theorem dTRo_sml {r : Rule} (h : GoodR r) : sml (dTRo r) = true ∧ (dTRo r).bulk ≤ 60 ∧ (dTRo r).depth ≤ 3 ∧ noL (dTRo r) = true := by
  cases r with
  | none => simp [dTRo, sml, PyData.bulk, PyData.depth, noL]
  | some p =>
    obtain ⟨m, ls⟩ := p
    obtain ⟨h1, h2⟩ := h
    have l2 := ascB_len h2 (by decide)
    refine ⟨?_, ?_, ?_, noL_TR _⟩
    · cases m with
      | none => simp only [dTRo, dTR, dTM, sml, smlAll, asc_sml h2 (by decide) (by decide), Bool.and_true]
      | some ms => simp only [dTRo, dTR, dTM, sml, smlAll, asc_sml h2 (by decide) (by decide), asc_sml (h1 ms rfl) (by decide) (by decide), Bool.and_true]
    · cases m with
      | none =>
        simp only [dTRo, dTR, dTM, PyData.bulk, PyData.bulkAll, bulkAll_int]
        omega
      | some ms =>
        have l1 := ascB_len (h1 ms rfl) (by decide)
        simp only [dTRo, dTR, dTM, PyData.bulk, PyData.bulkAll, bulkAll_int]
        omega
    · cases m with
      | none => simp only [dTRo, dTR, dTM, PyData.depth, PyData.depthAll, depthAll_int]; decide
      | some ms => simp only [dTRo, dTR, dTM, PyData.depth, PyData.depthAll, depthAll_int]; decide
theorem all_sml {f : Nat → PyData} (h : ∀ i, sml (f i) = true ∧ (f i).bulk ≤ 60 ∧ (f i).depth ≤ 3) : ∀ l : List Nat, smlAll (l.map f) = true ∧ PyData.bulkAll (l.map f) ≤ 61 * l.length ∧ PyData.depthAll (l.map f) ≤ 3
  | [] => by simp [smlAll, PyData.bulkAll, PyData.depthAll]
  | x :: r => by
    obtain ⟨a1, a2, a3⟩ := h x
    obtain ⟨b1, b2, b3⟩ := all_sml h r
    rw [List.map_cons]
    simp only [smlAll, PyData.bulkAll, PyData.depthAll, Bool.and_eq_true, List.length_cons]
    exact ⟨⟨a1, b1⟩, by omega, by omega⟩
theorem give_goodR {rs : List Rule} (h : RsOk rs) (a : Int) : GoodR ((giveL rs 9).lookup a) := by
  rw [giveL_at]
  split
  · exact h a
  · trivial
def ruD (rs : List Rule) (i : Nat) : PyData := dTRo ((giveL rs 9).lookup (-1 + (i : Int)))
def ruAll (rs : List Rule) (n : Nat) : List PyData := (List.range n).map (ruD rs)
theorem ruAll_snoc (rs : List Rule) (n : Nat) : ruAll rs (n + 1) = ruAll rs n ++ [ruD rs n] := by
  unfold ruAll
  rw [List.range_succ, List.map_append]
  rfl
theorem told_sml {rs : List Rule} {roots : List Int} (h : RsOk rs) (hr : AscB 1 10 roots) : sml (.list [dTI roots, .list (ruAll rs 13)]) = true ∧ PyData.depth (.list [dTI roots, .list (ruAll rs 13)]) ≤ 40 ∧ PyData.bulk (.list [dTI roots, .list (ruAll rs 13)]) ≤ 100000 := by
  obtain ⟨a1, a2, a3⟩ := all_sml (f := ruD rs) (fun i => ⟨(dTRo_sml (give_goodR h _)).1, (dTRo_sml (give_goodR h _)).2.1, (dTRo_sml (give_goodR h _)).2.2.1⟩) (List.range 13)
  have l2 := ascB_len hr (by decide)
  rw [List.length_range] at a2
  refine ⟨?_, ?_, ?_⟩
  · simp only [dTI, sml, smlAll, ruAll, a1, asc_sml hr (by decide) (by decide), Bool.and_true]
  · simp only [dTI, PyData.depth, PyData.depthAll, depthAll_int, ruAll]
    omega
  · simp only [dTI, PyData.bulk, PyData.bulkAll, bulkAll_int, ruAll]
    omega
theorem brkKR_bd (roots : List Int) (es : List (Int × Pr)) (ps : List (Int × Int)) : (brkKR roots es ps).length ≤ ps.length ∧ ∀ n ∈ brkKR roots es ps, 0 ≤ n ∧ n < ps.length := by
  refine ⟨?_, fun n hn => ?_⟩
  · unfold brkKR
    rw [iN_len]
    have := List.length_filter_le (fun v => (decide (v = 0) && !decide (labA ps v ∈ roots)) || brkE es ps v) (List.range ps.length)
    rw [List.length_range] at this
    exact this
  · unfold brkKR iN at hn
    obtain ⟨k, hk, rfl⟩ := List.mem_map.mp hn
    have := List.mem_range.mp (List.mem_filter.mp hk).1
    omega
theorem brk_sml (roots : List Int) (es : List (Int × Pr)) (ps : List (Int × Int)) (b : Bool) (h : ps.length ≤ 100) : sml (.list [dI (brkKR roots es ps), .bool b]) = true ∧ PyData.depth (.list [dI (brkKR roots es ps), .bool b]) ≤ 40 ∧ PyData.bulk (.list [dI (brkKR roots es ps), .bool b]) ≤ 100000 := by
  obtain ⟨h1, h2⟩ := brkKR_bd roots es ps
  refine ⟨?_, ?_, ?_⟩
  · simp only [dI, sml, smlAll, Bool.and_true]
    exact smlAll_int _ fun n hn => by
      have := h2 n hn
      omega
  · simp only [dI, PyData.depth, PyData.depthAll, depthAll_int]
    decide
  · simp only [dI, PyData.bulk, PyData.bulkAll, bulkAll_int]
    omega
theorem nn_sml {n : Int} (h0 : 0 ≤ n) (h1 : n ≤ 1000) : sml (dRef [.str "NoName", .int n]) = true ∧ PyData.depth (dRef [.str "NoName", .int n]) ≤ 40 ∧ PyData.bulk (dRef [.str "NoName", .int n]) ≤ 100000 := by
  refine ⟨?_, ?_, ?_⟩
  · simp only [dRef, sml, smlAll, Bool.and_true, Bool.and_eq_true, decide_eq_true_eq]
    exact ⟨by decide, by decide, by omega⟩
  · simp only [dRef, PyData.depth, PyData.depthAll]
    decide
  · simp only [dRef, PyData.bulk, PyData.bulkAll]
    decide
theorem take_succ_at' {α : Type} {xs : List α} {i : Nat} {y : α} (h : xs[i]? = some y) : xs.take (i + 1) = xs.take i ++ [y] := by
  rw [List.take_add_one, h]
  rfl

section
variable {P : Program} {w : World} {K : PySem.W.Frag} {mg : Str → Option Value} {base : Heap}
theorem wo_keep {G H : Hp} {p : Addr} (s : Same G H) (h : G p = none) : Same G (wo H p) := fun b u e => by
  rw [wo_ne (ne_of_none e h)]
  exact s b u e
/-- what stands once the kind is made -/
structure LawSt (T : Tx K mg) (G H : Hp) (p ra t r x rt : Addr) (ms : List Int) (l : Int) (kf : Fo) (roots : List Int) (rs : List Rule) : Prop where
  sG : Same G H
  gp : G p = none
  hp : H p = some (iLs ms)
  ok : PoolOk ms
  hra : SqL K G ra ((rowF (.cons l kf .nil)).map V.int)
  nd : NodesAt K G (.ref t) (tabF (-1) 0 (.cons l kf .nil))
  hrv : Dp K G (.ref r) (.list (rs.map dR))
  hrl : rs.length = 10
  hrs : RsOk rs
  hrt : SqL K G rt (roots.map V.int)
  asc : AscB 1 10 roots
  kind : KindAt T G x roots (giveL rs 9)
  okf : okF (.cons l kf .nil)
  hsz : szF (.cons l kf .nil) ≤ 14
theorem law_t2 (T : Tx K mg) (O : Ox K mg) (X2 : Ex2 K mg O) {cdv : Value} {A : Around} {outer : List Env} {s : Shared} {H0 : Hp} {E : XK}
    (hg : (A.deeper (PyProof.Rows.envOfC (Str.ofString "law") (defScope s_law) s.heap.objs.size T.d_law.a cdv)).guards = some [])
    (hr : Room 8 (A.deeper (PyProof.Rows.envOfC (Str.ofString "law") (defScope s_law) s.heap.objs.size T.d_law.a cdv))) :
    ∃ t2, PSs (cxOf CX0 P w K mg base N_law (Str.ofString "law") (defScope s_law) T.d_law.a cdv A outer s H0 E).nox ((defBody s_law).drop 17) t2 ∧
      ∀ (Q : VK) (G H : Hp) (p ra t r x rt x2 lb : Addr) (ms : List Int) (l : Int) (kf : Fo) (roots : List Int) (rs : List Rule) (v0 v5 v6 v8 v10 v11 v12 v15 v16 v17 : Option V), LawSt T G H p ra t r x rt ms l kf roots rs →
        TreeAt T G x2 (tabF (-1) 0 (.cons l kf .nil)) → SqL K G lb ((brkKR roots (giveL rs 9) (tabF (-1) 0 (.cons l kf .nil))).map V.int) → (∀ H', Q (.bl true) H') →
        t2 { nx := fun _ H' => Q .non H', rt := Q } [v0, some (.ref p), some (.ref ra), some (.ref t), some (.ref r), v5, v6, some (.ref rt), v8, some (.ref x), v10, v11, v12, some (.ref x2), some (.ref lb), v15, v16, v17] H := by
  refine ⟨_, ((pss_cons (ps_set (i := 15) sc_law.nd rfl (by first | exact Or.inl rfl | exact Or.inr rfl) (pe_make0 T.k_Web (ok_Webinit T) (hr.mono (by decide)) rfl T.Web.g T.d_Webinit.b .nil pass0))
  (pss_cons (ps_set (i := 16) sc_law.nd rfl (by first | exact Or.inl rfl | exact Or.inr rfl) (pe_ix (r := rIxL K) ix_list (pe_lst (pa_cons (pe_meth (pv 15) T.Web.cl T.m_Web_of_tree (ok_Web_of_tree T O) (hr.mono (by decide)) T.d_Web_of_tree.b .nil pass0 (pa_cons (pv 13) pa_nil)) (pa_cons (pe_meth (pv 15) T.Web.cl T.m_Web_of_row (ok_Web_of_row T O) (hr.mono (by decide)) T.d_Web_of_row.b .nil pass0 (pa_cons (pe_callTy (r := cLst K) k_lst (by rfl) T.b_list (by decide +kernel) (pa_cons (pv 2) pa_nil)) pa_nil)) pa_nil))) (pe_call (ok_law_draw T) (hr.mono (by decide)) rfl T.d_law_draw.g T.d_law_draw.F.kp T.d_law_draw.b .nil pass0 (pa_cons (pv 1) (pa_cons pe_int pa_nil))) (fun _ _ => rfl)))
  (pss_cons (ps_if (pt_cmpR op_ne (pe_callB SkE.call_repr_int (by rfl) T.b_repr (by decide +kernel) (pa_cons (pe_call (ok_web_breaks T O) (hr.mono (by decide)) rfl T.d_web_breaks.g T.d_web_breaks.F.kp T.d_web_breaks.b .nil passL (pa_cons (pv 15) (pa_cons (pv 16) (pa_cons (pv 9) pa_nil)))) pa_nil)) (pe_callB SkE.call_repr_int (by rfl) T.b_repr (by decide +kernel) (pa_cons (pe_callB (r := cLen K) k_len (by rfl) T.b_len (by decide +kernel) (pa_cons (pv 14) pa_nil)) pa_nil)) (nomark _)) 
    (pss_one (ps_ret pe_bl)) pss_nil)
  (pss_cons (ps_set (i := 17) sc_law.nd rfl (by first | exact Or.inl rfl | exact Or.inr rfl) (pe_op op_add pe_int (pe_call (ok_law_draw T) (hr.mono (by decide)) rfl T.d_law_draw.g T.d_law_draw.F.kp T.d_law_draw.b .nil pass0 (pa_cons (pv 1) (pa_cons pe_int pa_nil)))))
  (pss_cons (ps_if (pt_cmpR op_ne (pe_callB (r := rRepr K) (k_repr hg hr.units) (by rfl) T.b_repr (by decide +kernel) (pa_cons (pe_call (ok_law_refused T O X2) (hr.mono (by decide)) rfl T.d_law_refused.g T.d_law_refused.F.kp T.d_law_refused.b .nil pass0 (pa_cons (pe_make0 T.k_Web (ok_Webinit T) (hr.mono (by decide)) rfl T.Web.g T.d_Webinit.b .nil pass0) (pa_cons (pv 17) (pa_cons (pv 9) pa_nil)))) pa_nil)) (pe_callB (r := rRepr K) (k_repr hg hr.units) (by rfl) T.b_repr (by decide +kernel) (pa_cons (pe_tup (pa_cons pe_str (pa_cons (pe_lst (pa_cons (pe_tup (pa_cons pe_str (pa_cons (pv 17) pa_nil))) pa_nil)) (pa_cons pe_bl pa_nil)))) pa_nil)) (nomark _)) 
    (pss_one (ps_ret pe_bl)) pss_nil)
  (pss_one (ps_ret (pe_callG hg (ok_law_great T O X2) (hr.mono (by decide)) rfl T.d_law_great.g T.d_law_great.F.kp T.d_law_great.b pass0 (pa_cons (pv 1) (pa_cons (pv 15) (pa_cons (pv 16) (pa_cons (pv 9) (pa_cons (pv 7) (pa_cons (pv 4) (pa_cons (pv 3) pa_nil)))))))))))))))), fun Q G H p ra t r x rt x2 lb ms l kf roots rs v0 v5 v6 v8 v10 v11 v12 v15 v16 v17 L tr hlb kk => ?_⟩
  try simp only [nxK, cxK]
  walk_at "rd"
  intro y dy ny ndy ney
  refine ⟨y, dy, rfl, upd_same, fun m H1 b1 off1 hw1 => ⟨rfl, ?_⟩⟩
  have s1 : Same H H1 := sm_but ((sm_up ndy).trans (sm_up ((upd_ne ney.symm).trans ny))) ny b1
  obtain ⟨wdx, wus, hwy, -⟩ := id hw1
  walk_at "rd"
  have sG1 := L.sG.trans s1
  have offG : OffW G m := ⟨(L.sG.trans ((sm_up ndy).trans (sm_up ((upd_ne ney.symm).trans ny)))).free off1.o1, (L.sG.trans ((sm_up ndy).trans (sm_up ((upd_ne ney.symm).trans ny)))).free off1.o2, (L.sG.trans ((sm_up ndy).trans (sm_up ((upd_ne ney.symm).trans ny)))).free off1.o3, (L.sG.trans ((sm_up ndy).trans (sm_up ((upd_ne ney.symm).trans ny)))).free off1.o4⟩
  have offH : OffW H m := ⟨((sm_up ndy).trans (sm_up ((upd_ne ney.symm).trans ny))).free off1.o1, ((sm_up ndy).trans (sm_up ((upd_ne ney.symm).trans ny))).free off1.o2, ((sm_up ndy).trans (sm_up ((upd_ne ney.symm).trans ny))).free off1.o3, ((sm_up ndy).trans (sm_up ((upd_ne ney.symm).trans ny))).free off1.o4⟩
  have hszF : szF (.cons l kf .nil) ≤ 400 := Nat.le_trans L.hsz (by decide)
  refine ⟨y, x2, m, [], [.nil], l, kf, rfl, hw1, tr.up sG1, L.okf, hszF, by decide, fun n1 es1 fs1 H2 b2 hw2 more2 hn1 hes1 => ?_⟩
  have s2 : Same H H2 := sm_butW s1 offH b2
  have hra2 := (L.sG.trans s2).seq L.hra
  obtain ⟨_, _, hwy2, -⟩ := id hw2
  walk_at "rd"
  intro q1 hq1
  have hwy3 := sm_up (o := .lst ((rowF (.cons l kf .nil)).map V.int)) hq1 _ _ hwy2
  walk_at "rd"
  refine ⟨y, q1, m, es1, fs1, .cons l kf .nil, rfl, hw2.up (sm_up hq1), SqL.of upd_same, L.okf, hszF, by simp at hes1; omega, fun n2 es2 fs2 H3 b3 hw3 more3 hn2 hes2 => ?_⟩
  have s3 : Same H H3 := sm_butW (s2.trans (sm_up hq1)) offH b3
  have hn1' : fs2[n1]? = some (.cons l kf .nil) := by
    obtain ⟨more, rfl⟩ := more3
    rw [List.getElem?_append_left (List.getElem?_eq_some_iff.mp hn1).1]
    exact hn1
  walk_at "rd"
  intro q2 hq2
  have hp3 := s3 _ _ L.hp
  walk_at "rd"
  have n2p : q2 ≠ p := ne_fr hp3 hq2
  refine ⟨p, ms, 2, rfl, (upd_ne n2p.symm).trans hp3, L.ok, by decide, by decide, fun d ms4 H4 d0 d1 ok4 b4 hp4 => ?_⟩
  have hq4 : H4 q2 = some (.lst [.int (n1 : Int), .int (n2 : Int)]) := b4 q2 _ n2p upd_same
  have hsel : ∃ n : Nat, [V.int (n1 : Int), V.int (n2 : Int)][d.toNat]? = some (.int (n : Int)) ∧ fs2[n]? = some (.cons l kf .nil) := by
    rcases (by omega : d = 0 ∨ d = 1) with rfl | rfl
    · exact ⟨n1, rfl, hn1'⟩
    · exact ⟨n2, rfl, hn2⟩
  obtain ⟨n, hn, hfn⟩ := hsel
  refine r_ix (SqL.of hq4) d0 (by simp; omega) fun v hv => ?_
  rw [hn] at hv
  obtain rfl := Option.some.inj hv
  have sG4 : Same G H4 := sm_but ((L.sG.trans s3).trans (sm_up hq2)) L.gp b4
  have mpa : m.na ≠ p := fun e => by
    have := offH.o2
    rw [e, L.hp] at this
    cases this
  have mta : m.ta ≠ p := fun e => by
    have := offH.o3
    rw [e, L.hp] at this
    cases this
  have hp3u : (upd H3 q2 (.lst [.int (n1 : Int), .int (n2 : Int)])) p = some (iLs ms) := (upd_ne n2p.symm).trans hp3
  have hw4 : WebAt T H4 y m es2 fs2 := (hw3.up (sm_up hq2)).but hp3u mpa mta b4
  have hes : es2.length ≤ 100 := by
    have := L.hsz
    simp at hes1
    omega
  have hlb4 : SqL K H4 lb _ := sG4.seq hlb
  walk_at "rd"
  refine ⟨y, x, m, es2, fs2, roots, giveL rs 9, (n : Int), rfl, hw4, L.kind.up sG4, by omega, .inl ⟨n, _, rfl, hfn, rfl, fun H5 s5 => ?_⟩⟩
  have hab := ans_bd roots (giveL rs 9) l kf
  have hlg : ∀ i : Int, 0 ≤ i → i ≤ 1000 → i.natAbs.log2 < 1920 := fun i h0 h1 => Nat.lt_trans (log2_small (by omega)) (by decide)
  have hsz14 := L.hsz
  walk_at "rd"
  refine ⟨_, rfl, hlg _ hab.1 (by omega), ?_⟩
  have hlb5 := s5.seq hlb4
  walk_at "rd"
  rw [List.length_map, brkKR_len]
  refine ⟨_, rfl, hlg _ hab.1 (by omega), ?_⟩
  refine r_neSame ?_
  walk_at "rd"
  refine iteF ?_
  have hp5 := s5 _ _ hp4
  walk_at "rd"
  refine ⟨p, ms4, 1000, rfl, hp5, ok4, by decide, by decide, fun e ms6 H6 e0 e1 ok6 b6 hp6 => ?_⟩
  have sG6 : Same G H6 := sm_but (sG4.trans s5) L.gp b6
  have hw6 : WebAt T H6 y m es2 fs2 := (hw4.up s5).but hp5 mpa mta b6
  walk_at "rd"
  intro z dz nz ndz nez
  refine ⟨z, dz, rfl, upd_same, fun m7 H7 b7 off7 hw7 => ⟨rfl, ?_⟩⟩
  have s7 : Same H6 H7 := sm_but ((sm_up ndz).trans (sm_up ((upd_ne nez.symm).trans nz))) nz b7
  walk_at "rd"
  refine ⟨z, x, m7, [], [.nil], roots, giveL rs 9, 1 + e, rfl, hw7, L.kind.up (sG6.trans s7), by decide, .inr ⟨by simp; omega, fun r8 H8 s8 hr80 hd8 => ?_⟩⟩
  obtain ⟨t1, t2, t3⟩ := nn_sml (n := 1 + e) (by omega) (by omega)
  walk_at "rd"
  refine r_reprS (dp_up nw_le hd8) t1 t2 t3 ?_
  walk_at "rd"
  intro q3 hq3
  walk_at "rd"
  intro q4 hq4
  walk_at "rd"
  intro q5 hq5
  walk_at "rd"
  refine r_reprS (d := dRef [.str "NoName", .int (1 + e)]) (.tup (SqT.of upd_same) (.cons (.str _) (.cons (dp_up (sm_up hq5) (.lst (SqL.of upd_same) (.cons (dp_up (sm_up hq4) (.tup (SqT.of upd_same) (.cons (.str _) (.cons (.int _) .nil)))) .nil))) (.cons (.bl _) .nil)))) t1 t2 t3 ?_
  refine r_neSame ?_
  walk_at "rd"
  refine iteF ?_
  walk_at "rd"
  have s9 := fun o3 => (((s7.trans s8).trans (sm_up (o := .tup [.str "NoName", .int (1 + e)]) hq3)).trans (sm_up (o := .lst [.ref q3]) hq4)).trans (sm_up (o := o3) hq5)
  refine ⟨p, y, x, rt, .ref r, .ref t, m, es2, fs2, roots, rs, n, l, kf, ms6, G, rfl, s9 _ _ _ hp6, ok6, sG6.trans (s9 _), L.gp, offG, mpa, mta, hw6.up (s9 _), hfn, L.okf, L.hsz, hes, L.kind, L.hrt, L.hrv, L.hrl, L.nd, kk⟩
end

section
variable {P : Program} {w : World} {K : PySem.W.Frag} {mg : Str → Option Value} {base : Heap}
theorem law_t1 (T : Tx K mg) (O : Ox K mg) (X2 : Ex2 K mg O) {cdv : Value} {A : Around} {outer : List Env} {s : Shared} {H0 : Hp} {E : XK}
    (hg : (A.deeper (PyProof.Rows.envOfC (Str.ofString "law") (defScope s_law) s.heap.objs.size T.d_law.a cdv)).guards = some [])
    (hr : Room 8 (A.deeper (PyProof.Rows.envOfC (Str.ofString "law") (defScope s_law) s.heap.objs.size T.d_law.a cdv))) :
    ∃ t2, PSs (cxOf CX0 P w K mg base N_law (Str.ofString "law") (defScope s_law) T.d_law.a cdv A outer s H0 E).nox ((defBody s_law).drop 13) t2 ∧
      ∀ (Q : VK) (G H : Hp) (p ra t r x rt : Addr) (ms : List Int) (l : Int) (kf : Fo) (roots : List Int) (rs : List Rule) (v0 v5 v6 v8 v10 v11 v12 v13 v14 v15 v16 v17 : Option V), LawSt T G H p ra t r x rt ms l kf roots rs → (∀ H', Q (.bl true) H') →
        t2 { nx := fun _ H' => Q .non H', rt := Q } [v0, some (.ref p), some (.ref ra), some (.ref t), some (.ref r), v5, v6, some (.ref rt), v8, some (.ref x), v10, v11, v12, v13, v14, v15, v16, v17] H := by
  obtain ⟨t3, ht3, k3⟩ := law_t2 (P := P) (w := w) (base := base) (outer := outer) (H0 := H0) (E := E) T O X2 hg hr
  refine ⟨_, ((pss_cons (ps_set (i := 13) sc_law.nd rfl (by first | exact Or.inl rfl | exact Or.inr rfl) (pe_make T.k_Tree (ok_Treeinit T) (hr.mono (by decide)) rfl T.Tree.g T.d_Treeinit.b .nil pass0 (pa_cons (pe_lc (own := [("v", 12)]) (g := gName 12) rfl sc_law.nd (pi_list (pv 3)) (blkOk_by (own := [("v", 12)]) (N := N_law) (sc := defScope s_law) (by decide +kernel)) (fun _ _ _ _ _ => (pg_name (i := 12) sc_law.nd rfl (by first | exact Or.inl rfl | exact Or.inr rfl))) (fun _ _ _ _ _ => pts_nil) (fun _ _ _ _ _ => (pe_tup (pa_cons (pe_ix (r := rIxL K) ix_list (pv 12) pe_int (fun _ _ => rfl)) (pa_cons (pe_ix (r := rIxL K) ix_list (pv 12) pe_int (fun _ _ => rfl)) pa_nil))))) pa_nil)))
  (pss_cons (ps_set (i := 14) sc_law.nd rfl (by first | exact Or.inl rfl | exact Or.inr rfl) (pe_call (ok_law_breaks T) (hr.mono (by decide)) rfl T.d_law_breaks.g T.d_law_breaks.F.kp T.d_law_breaks.b .nil pass0 (pa_cons (pv 7) (pa_cons (pv 4) (pa_cons (pv 3) pa_nil)))))
  (pss_cons (ps_set (i := 11) sc_law.nd rfl (by first | exact Or.inl rfl | exact Or.inr rfl) (pe_call (ok_breaking_nodes T) (hr.mono (by decide)) rfl T.d_breaking_nodes.g T.d_breaking_nodes.F.kp T.d_breaking_nodes.b .nil pass0 (pa_cons (pv 9) (pa_cons (pv 13) pa_nil))))
  (pss_cons (ps_if (pt_cmpR op_ne (pe_callB (r := rRepr K) (k_repr hg hr.units) (by rfl) T.b_repr (by decide +kernel) (pa_cons (pe_lst (pa_cons (pv 11) (pa_cons (pe_call (ok_is_of_kind T) (hr.mono (by decide)) rfl T.d_is_of_kind.g T.d_is_of_kind.F.kp T.d_is_of_kind.b .nil pass0 (pa_cons (pv 9) (pa_cons (pv 13) pa_nil))) pa_nil))) pa_nil)) (pe_callB (r := rRepr K) (k_repr hg hr.units) (by rfl) T.b_repr (by decide +kernel) (pa_cons (pe_lst (pa_cons (pv 14) (pa_cons (pe_cmpR (r := rEqD K) (op_eqD hr.units) (pv 14) (pe_lst pa_nil) (nomark _)) pa_nil))) pa_nil)) (nomark _)) 
    (pss_one (ps_ret pe_bl)) pss_nil) ht3))))), fun Q G H p ra t r x rt ms l kf roots rs v0 v5 v6 v8 v10 v11 v12 v13 v14 v15 v16 v17 L kk => ?_⟩
  try simp only [nxK, cxK]
  obtain ⟨ps, hps⟩ : ∃ ps, ps = tabF (-1) 0 (.cons l kf .nil) := ⟨_, rfl⟩
  have hpl : ps.length = szF (.cons l kf .nil) := by rw [hps]; exact tabF_len _ _ _
  have hsz := L.hsz
  have hps1 : 1 ≤ ps.length := by rw [hpl]; simp only [szF]; omega
  have hlab : LabOk ps := fun j hj => by
    have e := List.getElem?_eq_getElem hj
    rw [labA_at e]
    exact tabF_lab (.cons l kf .nil) (-1) 0 L.okf _ (by rw [← hps]; exact List.mem_of_getElem? e)
  have ndG := L.nd
  rw [← hps] at ndG
  obtain ⟨ds, hds, hdl, hdg⟩ := id ndG
  obtain ⟨ta, vs, eta, hta, hvs⟩ := dp_list' hds
  cases eta
  have hvl : vs.length = ps.length := (dps_len hvs).trans hdl
  have htaH := L.sG.seq hta
  walk_at "rd"
  refine ⟨t, rfl, ⟨_, htaH⟩, lcJ (walk_list (xs := vs)) (fun H' s => s.seq htaH) ⟨by omega, fun D4 hD4 => ⟨fun j acc G => DpAll K G acc ((ps.take j).map dP), .nil, ?_, ?_⟩⟩⟩
  · rintro j v acc H18 H19 hj ⟨rfl, hv⟩ s18 hD18 hl18 hacc
    obtain ⟨dv, hdv, hdvv⟩ := dps_get' hvs hv
    obtain ⟨q, hpj⟩ : ∃ q, ps[j]? = some q := ⟨_, List.getElem?_eq_getElem (by omega)⟩
    obtain ⟨z1, z2, z3, hz⟩ := hdg j _ hpj
    rw [hdv] at hz
    obtain rfl := Option.some.inj hz
    have hnd : NdAt K H19 v q := ⟨z1, z2, z3, dp_up (L.sG.trans s18) hdvv⟩
    walk_at "rd"
    refine iteT ?_
    walk_at "rd"
    refine r_nd0 hnd ?_
    walk_at "rd"
    refine r_nd1 hnd ?_
    walk_at "rd"
    intro tq htq
    have ntD : D4 ≠ tq := (ne_fr hD18 htq).symm
    refine lcIn (s18.trans (sm_up htq)) hD4 ((upd_ne ntD).trans hD18) hl18 (by omega) ?_
    rw [take_succ_at' hpj, List.map_append]
    refine dps_app (dps_up (wo_mono (sm_up htq)) hacc) (.cons (dp_tints (ns := [q.1, q.2]) (SqT.of ?_)) .nil)
    exact (wo_ne ntD.symm).trans upd_same
  · intro acc4 H18 s18 hD18 hl18 hpairs
    rw [show (ps.take vs.length) = ps from by rw [hvl, List.take_length], hps] at hpairs
    walk_at "rd"
    intro x2 dx2 nx2 ndx2 nex2
    have sX2 : ∀ o, Same H18 (upd (upd H18 dx2 (.own x2)) x2 o) := fun o => (sm_up ndx2).trans (sm_up ((upd_ne nex2.symm).trans nx2))
    refine ⟨x2, dx2, D4, l, kf, H18, rfl, upd_same, sX2 _, nx2, L.okf, by omega, .lst (SqL.of hD18) (dps_up sm_wo hpairs), fun H19 s19 htr19 => ⟨rfl, ?_⟩⟩
    rw [← hps] at htr19
    have sG19 : Same G H19 := L.sG.trans (s18.trans s19)
    walk_at "rd"
    refine ⟨rt, roots, .ref r, .ref t, rs, ps, rfl, sG19.seq L.hrt, dp_up sG19 L.hrv, L.hrl, ndG.up sG19, by omega, hlab, fun lb H20 s20 hlb0 hlb1 => ?_⟩
    rw [brkL_eq hlab] at hlb1
    have htr20 : TreeAt T H20 x2 ps := htr19.up (nw_le.trans s20)
    have hk20 := L.kind.up (sG19.trans s20)
    walk_at "rd"
    refine ⟨x, x2, roots, giveL rs 9, ps, rfl, hk20, htr20, hps1, by omega, fun fo H21 s21 hfo0 hfo1 => ?_⟩
    walk_at "rd"
    refine ⟨x, x2, roots, giveL rs 9, ps, rfl, hk20.up s21, htr20.up s21, hps1, by omega, fun H22 s22 => ?_⟩
    walk_at "rd"
    intro q5 hq5
    obtain ⟨bs1, bs2, bs3⟩ := brk_sml roots (giveL rs 9) ps (decide (brkKR roots (giveL rs 9) ps = [])) (by omega)
    have hfo2 : SqL K H22 fo ((brkKR roots (giveL rs 9) ps).map V.int) := s22.seq (SqL.of hfo1)
    have hlb2 : SqL K H22 lb ((brkKR roots (giveL rs 9) ps).map V.int) := (s21.trans s22).seq (SqL.of hlb1)
    walk_at "rd"
    refine r_reprS (.lst (SqL.of upd_same) (.cons (dp_ints ((sm_up hq5).seq hfo2)) (.cons (.bl _) .nil))) bs1 bs2 bs3 ?_
    walk_at "rd"
    intro q6 hq6
    walk_at "rd"
    refine r_eqD (dp_ints (((sm_up hq5).trans (sm_up hq6)).seq hlb2)) (dp_ints (ns := []) (SqL.of upd_same)) (shapedI _) (shapedI _) ?_
    rw [eqvI]
    walk_at "rd"
    intro q7 hq7
    walk_at "rd"
    refine r_reprS (.lst (SqL.of upd_same) (.cons (dp_up (sm_up hq7) (dp_ints (((sm_up hq5).trans (sm_up hq6)).seq hlb2))) (.cons (.bl _) .nil))) bs1 bs2 bs3 ?_
    refine r_neSame ?_
    walk_at "rd"
    refine iteF ?_
    walk_at "rd"
    have sF := ((s21.trans s22).trans (sm_up (o := .lst [.ref fo, .bl (decide (brkKR roots (giveL rs 9) ps = []))]) hq5)).trans ((sm_up (o := .lst []) hq6).trans (sm_up (o := .lst [.ref lb, .bl (decide (brkKR roots (giveL rs 9) ps = []))]) hq7))
    have hpF := ((s18.trans s19).trans (s20.trans sF)) _ _ L.hp
    have sK := wo_keep ((sG19.trans s20).trans sF) L.gp
    have nlp : lb ≠ p := ne_fr ((s18.trans s19) _ _ L.hp) hlb0
    refine k3 Q _ _ p ra t r x rt x2 lb ms l kf roots rs v0 v5 v6 v8 v10 (some (.ref fo)) v12 v15 v16 v17 ⟨sm_wo, wo_at, hpF, L.ok, sK.seq L.hra, L.nd.up sK, dp_up sK L.hrv, L.hrl, L.hrs, sK.seq L.hrt, L.asc, L.kind.up sK, L.okf, L.hsz⟩ ?_ ?_ kk
    · rw [← hps]
      exact (htr20.up sF).off (ys := ms.map V.int) hpF
    · rw [← hps]
      exact SqL.of ((wo_ne nlp).trans (sF _ _ hlb1))
end

section
variable {P : Program} {w : World} {K : PySem.W.Frag} {mg : Str → Option Value} {base : Heap}
def sp_law (K : PySem.W.Frag) : Sp := fun vs H Q _ => ∃ (a : Addr) (ns : List Int), vs = [.ref a] ∧ SqL K H a (ns.map V.int) ∧ ns.length ≤ 63 ∧ ∀ H' : Hp, Q (.bl true) H'
theorem ok_law (T : Tx K mg) (O : Ox K mg) (X2 : Ex2 K mg O) : FnOkG P w K mg base CX0 9 T.d_law.a T.d_law.fd P_law (sp_law K) := by
  refine Fun.okG T.d_law.F sc_law (fun vs H Q E h => ?_) (fun cdv A outer s H vs Q E hg hr h => ?_)
  · obtain ⟨_, _, rfl, _⟩ := h
    rfl
  · obtain ⟨a, ns, rfl, hs, hl, kk⟩ := h
    obtain ⟨t1, ht1, k1⟩ := law_t1 (P := P) (w := w) (base := base) (outer := outer) (H0 := H) (E := E) T O X2 hg hr
    refine ⟨_, ((pss_cons (ps_set (i := 1) sc_law.nd rfl (by first | exact Or.inl rfl | exact Or.inr rfl) (pe_call (ok_law_pool T) (hr.mono (by decide)) rfl T.d_law_pool.g T.d_law_pool.F.kp T.d_law_pool.b .nil pass0 (pa_cons (pv 0) pa_nil)))
  (pss_cons (ps_set (i := 2) sc_law.nd rfl (by first | exact Or.inl rfl | exact Or.inr rfl) (pe_call (ok_law_tree T) (hr.mono (by decide)) rfl T.d_law_tree.g T.d_law_tree.F.kp T.d_law_tree.b .nil pass0 (pa_cons (pv 1) (pa_cons (pe_op op_add pe_int (pe_call (ok_law_draw T) (hr.mono (by decide)) rfl T.d_law_draw.g T.d_law_draw.F.kp T.d_law_draw.b .nil pass0 (pa_cons (pv 1) (pa_cons pe_int pa_nil)))) (pa_cons (pe_ix (r := rIxL K) ix_list (pe_lst (pa_cons pe_int (pa_cons pe_int pa_nil))) (pe_call (ok_law_draw T) (hr.mono (by decide)) rfl T.d_law_draw.g T.d_law_draw.F.kp T.d_law_draw.b .nil pass0 (pa_cons (pv 1) (pa_cons pe_int pa_nil))) (fun _ _ => rfl)) pa_nil)))))
  (pss_cons (ps_set (i := 3) sc_law.nd rfl (by first | exact Or.inl rfl | exact Or.inr rfl) (pe_call (ok_law_nodes T) (hr.mono (by decide)) rfl T.d_law_nodes.g T.d_law_nodes.F.kp T.d_law_nodes.b .nil pass0 (pa_cons (pv 2) pa_nil)))
  (pss_cons (ps_set (i := 4) sc_law.nd rfl (by first | exact Or.inl rfl | exact Or.inr rfl) (pe_call (ok_law_rules T) (hr.mono (by decide)) rfl T.d_law_rules.g T.d_law_rules.F.kp T.d_law_rules.b .nil pass0 (pa_cons (pv 1) (pa_cons (pv 3) pa_nil))))
  (pss_cons (ps_set (i := 5) sc_law.nd rfl (by first | exact Or.inl rfl | exact Or.inr rfl) (pe_op op_add pe_int (pe_call (ok_law_draw T) (hr.mono (by decide)) rfl T.d_law_draw.g T.d_law_draw.F.kp T.d_law_draw.b .nil pass0 (pa_cons (pv 1) (pa_cons pe_int pa_nil)))))
  (pss_cons (ps_setLc (i := 7) (own := [("a", 6)]) (g := gName 6) rfl sc_law.nd rfl rfl (sw_true rfl rfl rfl (by decide +kernel)) (pi_range2 rfl T.b_range (pa_cons pe_int (pa_cons pe_int pa_nil))) (blkOk_by (own := [("a", 6)]) (N := N_law) (sc := defScope s_law) (by decide +kernel)) (fun _ _ _ _ _ => (pg_name (i := 6) sc_law.nd rfl (by first | exact Or.inl rfl | exact Or.inr rfl))) (fun _ _ _ _ _ => pts_one (pt_cmpR (r := rIn K false) op_in_seq (pv 6) (pe_tup (pa_cons (pv 5) (pa_cons (pe_ix (r := rIxL K) ix_list (pe_ix (r := rIxL K) ix_list (pv 3) pe_int (fun _ _ => rfl)) pe_int (fun _ _ => rfl)) pa_nil))) rfl)) (fun _ _ _ _ _ => (pv 6)))
  (pss_cons (ps_set (i := 7) sc_law.nd rfl (by first | exact Or.inl rfl | exact Or.inr rfl) (pe_call (ok_law_spoilt T) (hr.mono (by decide)) rfl T.d_law_spoilt.g T.d_law_spoilt.F.kp T.d_law_spoilt.b .nil pass0 (pa_cons (pv 1) (pa_cons (pv 7) (pa_cons (pv 4) (pa_cons (pv 3) pa_nil))))))
  (pss_cons (ps_set (i := 8) sc_law.nd rfl (by first | exact Or.inl rfl | exact Or.inr rfl) (pe_call (ok_law_given T) (hr.mono (by decide)) rfl T.d_law_given.g T.d_law_given.F.kp T.d_law_given.b .nil pass0 (pa_cons (pv 4) pa_nil)))
  (pss_cons (ps_set (i := 9) sc_law.nd rfl (by first | exact Or.inl rfl | exact Or.inr rfl) (pe_make T.k_Kind (ok_Kindinit T) (hr.mono (by decide)) rfl T.Kind.g T.d_Kindinit.b .nil pass0 (pa_cons (pe_callTy (r := cTup K) k_tup (by rfl) T.b_tuple (by decide +kernel) (pa_cons (pv 7) pa_nil)) (pa_cons (pv 8) pa_nil))))
  (pss_cons (ps_expr (pe_dclear (pv 8)))
  (pss_cons (ps_setLc (i := 10) (own := [("a", 6)]) (g := gName 6) rfl sc_law.nd rfl rfl (sw_true rfl rfl rfl (by decide +kernel)) (pi_range2 rfl T.b_range (pa_cons (pe_un un_neg pe_int) (pa_cons pe_int pa_nil))) (blkOk_by (own := [("a", 6)]) (N := N_law) (sc := defScope s_law) (by decide +kernel)) (fun _ _ _ _ _ => (pg_name (i := 6) sc_law.nd rfl (by first | exact Or.inl rfl | exact Or.inr rfl))) (fun _ _ _ _ _ => pts_nil) (fun _ _ _ _ _ => (pe_dget1 (hu_of hr) (pe_call (ok_law_given T) (hr.mono (by decide)) rfl T.d_law_given.g T.d_law_given.F.kp T.d_law_given.b .nil pass0 (pa_cons (pv 4) pa_nil)) (pv 6) ⟨rfl, rfl, rfl, rfl⟩)))
  (pss_cons (ps_setLc (i := 11) (own := [("a", 6)]) (g := gName 6) rfl sc_law.nd rfl rfl (sw_true rfl rfl rfl (by decide +kernel)) (pi_range2 rfl T.b_range (pa_cons (pe_un un_neg pe_int) (pa_cons pe_int pa_nil))) (blkOk_by (own := [("a", 6)]) (N := N_law) (sc := defScope s_law) (by decide +kernel)) (fun _ _ _ _ _ => (pg_name (i := 6) sc_law.nd rfl (by first | exact Or.inl rfl | exact Or.inr rfl))) (fun _ _ _ _ _ => pts_nil) (fun _ _ _ _ _ => (pe_meth (pv 9) T.Kind.cl T.m_Kind_rule (ok_Kind_rule T) (hr.mono (by decide)) T.d_Kind_rule.b .nil pass0 (pa_cons (pv 6) pa_nil))))
  (pss_cons (ps_if (pt_cmpR op_ne (pe_callB (r := rRepr K) (k_repr hg hr.units) (by rfl) T.b_repr (by decide +kernel) (pa_cons (pe_lst (pa_cons (pe_prop (pv 9) T.Kind.cl T.p_Kind_roots (ok_Kind_roots T) (hr.mono (by decide)) T.d_Kind_roots.b .nil pass0 rfl) (pa_cons (pv 11) pa_nil))) pa_nil)) (pe_callB (r := rRepr K) (k_repr hg hr.units) (by rfl) T.b_repr (by decide +kernel) (pa_cons (pe_lst (pa_cons (pe_callTy (r := cTup K) k_tup (by rfl) T.b_tuple (by decide +kernel) (pa_cons (pv 7) pa_nil)) (pa_cons (pv 10) pa_nil))) pa_nil)) (nomark _)) 
    (pss_one (ps_ret pe_bl)) pss_nil) ht1)))))))))))))), ?_⟩
    try simp only [nxK, cxK]
    walk_at "rd"
    refine ⟨a, ns, rfl, hs, hl, fun p ms H1 hok1 s1 gp hp1 => ?_⟩
    walk_at "rd"
    refine ⟨p, ms, 14, rfl, hp1, hok1, by decide, by decide, fun d ms2 H2 d0 d1 hok2 b2 hp2 => ?_⟩
    walk_at "rd"
    intro q hq
    have nqp : q ≠ p := ne_fr hp2 hq
    walk_at "rd"
    refine ⟨p, ms2, 2, rfl, (upd_ne nqp.symm).trans hp2, hok2, by decide, by decide, fun e ms3 H3 e0 e1 hok3 b3 hp3 => ?_⟩
    have hq3 : H3 q = some (.lst [.int 9, .int 3]) := b3 q _ nqp upd_same
    have hxe : ∃ kd : Int, [V.int 9, V.int 3][e.toNat]? = some (.int kd) ∧ 1 ≤ kd ∧ kd ≤ 9 := by
      rcases (by omega : e = 0 ∨ e = 1) with rfl | rfl
      · exact ⟨9, rfl, by decide, by decide⟩
      · exact ⟨3, rfl, by decide, by decide⟩
    obtain ⟨kd, hkd, hkd1, hkd2⟩ := hxe
    refine r_ix (SqL.of hq3) e0 (by simp; omega) fun v hv => ?_
    rw [hkd] at hv
    obtain rfl := Option.some.inj hv
    walk_at "rd"
    refine ⟨p, ms3, _, kd, rfl, hp3, hok3, by omega, by omega, hkd1, hkd2, fun ra ms4 l kf H4 okf hsz b4 hp4 hok4 nrp hra3 hra4 => ?_⟩
    have hsz14 : szF (.cons l kf .nil) ≤ 14 := by omega
    walk_at "rd"
    refine ⟨ra, .cons l kf .nil, rfl, SqL.of hra4, okf, by omega, fun t H5 s5 ht4 hnd5 => ?_⟩
    have hp5 : H5 p = some (iLs ms4) := s5 _ _ hp4
    walk_at "rd"
    let ps := tabF (-1) 0 (.cons l kf .nil)
    let G5 := wo H5 p
    have nd5 : NodesAt K G5 (.ref t) ps := hnd5.up (nw_wo hp4)
    have hra5 : SqL K G5 ra ((rowF (.cons l kf .nil)).map V.int) := SqL.of ((wo_ne nrp).trans (s5 _ _ hra4))
    have hpl : ps.length = szF (.cons l kf .nil) := tabF_len _ _ _
    have hps1 : 1 ≤ ps.length := by rw [hpl]; simp only [szF]; omega
    have hps30 : ps.length ≤ 30 := by omega
    have hlab : LabOk ps := fun j hj => by
      have e := List.getElem?_eq_getElem hj
      rw [labA_at e]
      exact tabF_lab _ _ _ okf _ (List.mem_of_getElem? e)
    have hup : UpOk ps := fun j hj => by
      have e := List.getElem?_eq_getElem hj
      rw [upA_at e]
      have := (tabF_up _ _ _ (by decide) j _ e).2
      omega
    refine ⟨p, ms4, .ref t, ps, G5, rfl, hp5, hok4, sm_wo, wo_at, nd5, hps30, hlab, fun r us rs ms6 G6 H6 sG6 sH6 gp6 gr6 nrp6 hp6 hok6 hr6 hus6 hrl6 hrs6 hfor6 => ?_⟩
    walk_at "rd"
    refine ⟨p, ms6, 9, rfl, hp6, hok6, by decide, by decide, fun ot ms7 H7 ot0 ot1 hok7 b7 hp7 => ?_⟩
    have hr7 : H7 r = some (.lst us) := b7 r _ nrp6 hr6
    have sG7 : Same G6 H7 := sm_but sH6 gp6 b7
    have nd7 : NodesAt K H7 (.ref t) ps := nd5.up (sG6.trans sG7)
    walk_at "rd"
    refine ⟨1, 10, rfl, by decide, lcJ walkR2 (fun _ _ => trivial) ⟨by decide, fun D1 hD1 => ⟨fun j acc _ => ∃ cs : List Int, acc = cs.map V.int ∧ AscB 1 (1 + (j : Int)) cs, ⟨[], rfl, ascB_nil⟩, ?_, ?_⟩⟩⟩
    · rintro j x acc H8 H9 hj ⟨rfl, rfl⟩ s8 hD8 hl8 ⟨cs, rfl, hcs⟩
      have hj' : j < 9 := hj
      walk_at "rd"
      refine r_nd (nd7.up s8) (by decide) (by omega) fun u hu => ?_
      walk_at "rd"
      refine r_nd1 hu ?_
      walk_at "rd"
      intro tp htp
      have ntD : D1 ≠ tp := (ne_fr hD8 htp).symm
      have tq : SqT K (upd H9 tp (.tup [.int (1 + ot), .int (labA ps (Int.toNat 0))])) tp ([1 + ot, labA ps (Int.toNat 0)].map V.int) := SqT.of upd_same
      walk_at "rd"
      refine ifd (fun e => ?_) (fun e => ?_)
      · walk_at "rd"
        exact lcIn (s8.trans (sm_up htp)) hD1 ((upd_ne ntD).trans hD8) hl8 (by omega) ⟨cs ++ [1 + (j : Int)], by rw [List.map_append]; rfl, ascB_up (ascB_snoc hcs (by omega)) (by omega)⟩
      · exact lcOut (s8.trans (sm_up htp)) ((upd_ne ntD).trans hD8) hl8 ⟨cs, rfl, ascB_up hcs (by omega)⟩
    · rintro acc H8 s8 hD8 hl8 ⟨roots0, rfl, hasc0⟩
      have hp8 := s8 _ _ hp7
      have hr8 := s8 _ _ hr7
      have nDp : D1 ≠ p := ne_fr hp7 hD1
      have nDr : D1 ≠ r := ne_fr hr7 hD1
      have sG8 : Same G6 (wo (wo H8 p) r) := wo_keep (wo_keep (sG7.trans s8) gp6) gr6
      walk_at "rd"
      refine ⟨p, D1, r, .ref t, ms7, roots0, us, rs, ps, wo (wo H8 p) r, rfl, hp8, hok7, sm_wo.trans sm_wo, (by rw [wo_ne nrp6.symm]; exact wo_at), wo_at, nrp6, hr8, dps_up sG8 hus6, hrl6, hrs6, hfor6, SqL.of ((wo_ne nDr).trans ((wo_ne nDp).trans hD8)), ascB_up hasc0 (by decide), nd5.up (sG6.trans sG8), hps1, hps30, hlab, hup, fun rt roots us9 rs9 ms9 G9 H9 sG9 sH9 gp9 gr9 hp9 hok9 hr9 hus9 hrl9 hrs9 hrt9 hasc9 => ?_⟩
      walk_at "rd"
      refine ⟨.ref r, rs9, rfl, .lst (SqL.of hr9) (dps_up sH9 hus9), hrl9, fun g kvs H10 s10 hg0 hg1 hkv => ?_⟩
      have hrt10 : SqL K H10 rt (roots.map V.int) := (sH9.trans s10).seq hrt9
      walk_at "rd"
      intro tp htp
      walk_at "rd"
      intro x dx nx ndx nex
      have ngt : g ≠ tp := ne_fr hg1 htp |>.symm
      have n1 : tp ≠ g := ngt.symm
      have gx : x ≠ g := (ne_fr ((upd_ne ngt).trans hg1) nx)
      have gd : dx ≠ g := (ne_fr ((upd_ne ngt).trans hg1) ndx)
      have sX : ∀ o, Same (upd H10 tp (.tup (roots.map V.int))) (upd (upd (upd H10 tp (.tup (roots.map V.int))) dx (.own x)) x o) := fun o => (sm_up ndx).trans (sm_up ((upd_ne nex.symm).trans nx))
      have hgood := giveL_good hrs9
      refine ⟨x, dx, tp, g, roots, kvs, giveL rs9 9, wo (upd H10 tp (.tup (roots.map V.int))) g, rfl, upd_same, sm_wo.trans (sX _), wo_nn nx, wo_at, SqT.of ((wo_ne n1).trans upd_same), hasc9, (upd_ne gx.symm).trans ((upd_ne gd.symm).trans ((upd_ne ngt).trans hg1)), hkv.up (wo_mono (nw_le.trans (sm_up htp))), hgood, Nat.le_trans (giveL_len rs9 9) (by decide), fun H12 b12 hk12 => ⟨rfl, ?_⟩⟩
      have s12 : Same (upd H10 tp (.tup (roots.map V.int))) H12 := sm_but (sX _) nx b12
      have hg12 : H12 g = some (.dK kvs) := s12 _ _ ((upd_ne ngt).trans hg1)
      walk_at "rd"
      refine ⟨.inr (.inr (.inl ⟨rfl, .inl ⟨kvs, hg12⟩⟩)), g, kvs, rfl, rfl, hg12, ?_⟩
      have s13 : Same H9 (upd H12 g (.dK [])) := sm_mut ((s10.trans (sm_up htp)).trans s12) hg0
      have hk13 : KindAt T (upd H12 g (.dK [])) x roots (giveL rs9 9) := hk12.up (sm_mut sm_wo wo_at)
      generalize upd H12 g (.dK []) = H13 at s13 hk13
      have hp13 := s13 _ _ hp9
      have hr13 := s13 _ _ hr9
      have hrv9 : Dp K (wo H9 p) (.ref r) (.list (rs9.map dR)) := .lst (SqL.of ((wo_ne nrp6).trans hr9)) (dps_up (wo_keep sH9 gp9) hus9)
      obtain ⟨kdx, kra, kda, kkvs, hkx, hkr, hkd, hkk⟩ := id hk13
      walk_at "rd"
      refine ⟨-1, 12, rfl, by decide, lcJ walkR2 (fun _ _ => trivial) ⟨by decide, fun D2 hD2 => ⟨fun j acc G => DpAll K G acc (ruAll rs9 j), .nil, ?_, ?_⟩⟩⟩
      · rintro j v acc H14 H15 hj ⟨rfl, rfl⟩ s14 hD14 hl14 hacc
        walk_at "rd"
        refine iteT ?_
        walk_at "rd"
        refine ⟨.ref r, rs9, rfl, dp_up (sm_wo.trans (s13.trans s14)) hrv9, hrl9, fun g2 kv2 H16 s16 hg20 hg21 hkv2 => ?_⟩
        walk_at "rd"
        refine ⟨g2, rfl, .inl ⟨kv2, .inl hg21⟩, ?_⟩
        walk_at "rd"
        refine ⟨_, DGet.k (k := Sum.inl (-1 + (j : Int))) hg21, ?_⟩
        refine lcIn (s14.trans s16) hD2 (s16 _ _ hD14) hl14 (by have : j < 13 := hj; omega) ?_
        rw [ruAll_snoc]
        refine dps_app (dps_up (wo_mono s16) hacc) (.cons ?_ .nil)
        have z := hkv2.val (-1 + (j : Int))
        unfold ruD
        cases hl : (giveL rs9 9).lookup (-1 + (j : Int)) with
        | none =>
          rw [hl] at z
          rw [show valV kv2 (Sum.inl (-1 + (j : Int)) : Key) = none from z]
          exact .non
        | some pr =>
          rw [hl] at z
          obtain ⟨v, z1, z2⟩ := z
          rw [z1]
          exact dp_up (sm_wo.trans (nw_wo hD14)) z2
      · intro acc H14 s14 hD14 hl14 hdue
        have hx14 := s14 _ _ hkx
        have hk14 := hk13.up s14
        walk_at "rd"
        refine ⟨-1, 12, rfl, by decide, lcJ walkR2 (fun _ _ => trivial) ⟨by decide, fun D3 hD3 => ⟨fun j acc G => DpAll K G acc (ruAll rs9 j), .nil, ?_, ?_⟩⟩⟩
        · rintro j v acc H15 H16 hj ⟨rfl, rfl⟩ s15 hD15 hl15 hacc
          have hx16 := s15 _ _ hx14
          walk_at "rd"
          refine iteT ?_
          walk_at "rd"
          refine ⟨x, roots, giveL rs9 9, -1 + (j : Int), rfl, hk14.up s15, fun v hv => ?_⟩
          refine lcIn s15 hD3 hD15 hl15 (by have : j < 13 := hj; omega) ?_
          rw [ruAll_snoc]
          exact dps_app hacc (.cons (dp_off hD15 hv (dTRo_sml (give_goodR hrs9 _)).2.2.2) .nil)
        · intro acc3 H15 s15 hD15 hl15 htold
          have hx15 := s15 _ _ hx14
          have hk15 := hk14.up s15
          have hrt15 : SqL K H15 rt (roots.map V.int) := (sH9.trans (s13.trans (s14.trans s15))).seq hrt9
          obtain ⟨ts1, ts2, ts3⟩ := told_sml hrs9 hasc9
          walk_at "rd"
          refine ⟨x, roots, giveL rs9 9, rfl, hk15, fun kr hkr15 => ?_⟩
          walk_at "rd"
          intro q1 hq1
          walk_at "rd"
          have dtold : Dp K H15 (.ref D3) (.list (ruAll rs9 13)) := .lst (SqL.of hD15) (dps_up sm_wo htold)
          have ddue : Dp K H15 (.ref D2) (.list (ruAll rs9 13)) := dp_up s15 (.lst (SqL.of hD14) (dps_up sm_wo hdue))
          refine r_reprS (.lst (SqL.of upd_same) (.cons (dp_up (sm_up hq1) (dp_tints hkr15)) (.cons (dp_up (sm_up hq1) dtold) .nil))) ts1 ts2 ts3 ?_
          walk_at "rd"
          intro q2 hq2
          walk_at "rd"
          intro q3 hq3
          walk_at "rd"
          refine r_reprS (.lst (SqL.of upd_same) (.cons (dp_up (sm_up hq3) (dp_tints (SqT.of upd_same))) (.cons (dp_up (((sm_up hq1).trans (sm_up hq2)).trans (sm_up hq3)) ddue) .nil))) ts1 ts2 ts3 ?_
          refine r_neSame ?_
          walk_at "rd"
          refine iteF ?_
          walk_at "rd"
          have sF := ((s13.trans (s14.trans s15)).trans (sm_up (o := .lst [.ref kr, .ref D3]) hq1)).trans ((sm_up (o := .tup (roots.map V.int)) hq2).trans (sm_up (o := .lst [.ref q2, .ref D2]) hq3))
          have sX := ((s14.trans s15).trans (sm_up (o := .lst [.ref kr, .ref D3]) hq1)).trans ((sm_up (o := .tup (roots.map V.int)) hq2).trans (sm_up (o := .lst [.ref q2, .ref D2]) hq3))
          have hpF := sF _ _ hp9
          have sK := wo_keep (sH9.trans sF) gp9
          have sK6 := sG6.trans (sG8.trans (sG9.trans sK))
          refine k1 Q _ _ p ra t r x rt ms9 l kf roots rs9 _ _ _ _ _ _ _ _ _ _ _ _ ⟨sm_wo, wo_at, hpF, hok9, sK6.seq hra5, nd5.up sK6, ?_, hrl9, hrs9, sK.seq hrt9, hasc9, (hk13.up sX).off (ys := ms9.map V.int) hpF, okf, hsz14⟩ kk
          exact .lst (SqL.of ((wo_ne nrp6).trans (sF _ _ hr9))) (dps_up sK hus9)
end

/-! ### what the top leaves: one maker for each kind of fact -/
section
variable {K : PySem.W.Frag} {mg : Str → Option Value} {h : Heap}
abbrev BindF (x qual : Str) (st : Stmt) (ps : List Str) : Prop := ∀ (kV doc pm : Value) (an : Option Addr) (cdv ct : Value) (us : List Value), us.length = ps.length → bindArgs (PySem.W.fnOf x qual (defArgs st) (defBody st) (defScope st) .none kV doc pm an cdv ct) ⟨us, []⟩ = pure (ps.zip us)
def df_mk {x : Str} {st : Stmt} {ps : List Str} {f : Addr} {oc : Value} {od an : Option Addr} {osl : Array (Option Value)} {kV doc pm cdv ct : Value} (X : K.In h) (G : h.Ns mainGlobals mg) (bi : BindF x x st ps) (a : PySem.W.nsIn K mainGlobals x = some (some (.ref f)))
    (l : K.lookup f = some ⟨oc, od, .func (PySem.W.fnOf x x (defArgs st) (defBody st) (defScope st) .none kV doc pm an cdv ct), osl⟩) (c : PySem.W.codeIn K cdv x = true) (k : PySem.W.keepIn K (.ref f) = true) : Df K mg x st ps :=
  ⟨f, _, fun_mk l c k, (fun_mk l c k).binds bi, PySem.W.mg_of X G a⟩
def cf_mk {x : Str} {C : Addr} (X : K.In h) (G : h.Ns mainGlobals mg) (a : PySem.W.nsIn K mainGlobals x = some (some (.ref C))) (pg : PySem.W.plainGet K C Str.empty = true) (hd : PySem.W.hasDictIn K C = true) (po : PySem.W.plainOver K C = true)
    (sa : PySem.W.findIn K (.ref C) "__setattr__" = some (some (.builtin "object.__setattr__"))) : Cf K mg x := ⟨C, ⟨pg, hd, po, sa⟩, PySem.W.mg_of X G a⟩
theorem meth_mk {x qual : Str} {st : Stmt} {ps : List Str} {C f : Addr} {oc : Value} {od an : Option Addr} {osl : Array (Option Value)} {kV doc pm cdv ct : Value} (bi : BindF x qual st ps) (a : PySem.W.findIn K (.ref C) x = some (some (.ref f))) (i : PySem.W.isFn K (.ref f) = true)
    (l : K.lookup f = some ⟨oc, od, .func (PySem.W.fnOf x qual (defArgs st) (defBody st) (defScope st) .none kV doc pm an cdv ct), osl⟩) (c : PySem.W.codeIn K cdv qual = true) (k : PySem.W.keepIn K (.ref f) = true) : ∃ d : Mf K x qual st ps, Meth K C x d.a :=
  ⟨⟨f, _, fun_mk l c k, (fun_mk l c k).binds bi⟩, a, i, k⟩
theorem init_mk {qual : Str} {st : Stmt} {ps : List Str} {C f : Addr} {oc : Value} {od an : Option Addr} {osl : Array (Option Value)} {kV doc pm cdv ct : Value} (bi : BindF "__init__" qual st ps) (m : PySem.W.makesIn K C = true) (kc : PySem.W.keepIn K (.ref C) = true) (a : PySem.W.findIn K (.ref C) "__init__" = some (some (.ref f))) (i : PySem.W.isFn K (.ref f) = true)
    (l : K.lookup f = some ⟨oc, od, .func (PySem.W.fnOf "__init__" qual (defArgs st) (defBody st) (defScope st) .none kV doc pm an cdv ct), osl⟩) (c : PySem.W.codeIn K cdv qual = true) (k : PySem.W.keepIn K (.ref f) = true) : ∃ d : Mf K "__init__" qual st ps, Mk K C d.a :=
  ⟨⟨f, _, fun_mk l c k, (fun_mk l c k).binds bi⟩, m, a, i, kc⟩
theorem prop_mk {x qual : Str} {st : Stmt} {ps : List Str} {C p f : Addr} {rest : List Value} {oc : Value} {od an : Option Addr} {osl : Array (Option Value)} {kV doc pm cdv ct : Value} (bi : BindF x qual st ps) (a : PySem.W.findIn K (.ref C) x = some (some (.ref p))) (g : PySem.W.specialIn K (.ref p) "__get__" = some (some (.builtin "property.__get__"))) (t : PySem.W.takesIn K (.ref p) = some true)
    (r : PySem.W.recIn K p "property" = some (.ref f :: rest)) (l : K.lookup f = some ⟨oc, od, .func (PySem.W.fnOf x qual (defArgs st) (defBody st) (defScope st) .none kV doc pm an cdv ct), osl⟩) (c : PySem.W.codeIn K cdv qual = true) (k : PySem.W.keepIn K (.ref f) = true) : ∃ (pa : Addr) (d : Mf K x qual st ps), PropOf K C x pa d.a :=
  ⟨p, ⟨f, _, fun_mk l c k, (fun_mk l c k).binds bi⟩, a, g, t, rest, r⟩
theorem con_mk {x : Str} {i : Int} {t : Tok} (X : K.In h) (G : h.Ns mainGlobals mg) (a : PySem.W.nsIn K mainGlobals x = some (some (.int i t))) : ∃ t : Tok, mg x = some (.int i t) := ⟨t, PySem.W.mg_of X G a⟩
theorem kcls_mk {t : Value} {C : Addr} {cd : ClassData} {b : Bool} (c : PySem.W.clsIn K C = some cd) (ty : PySem.W.typeIn K (.ref C) = some (.type "type")) (s : PySem.W.subIn K t (.ref C) = some b) : PySem.W.kitCls K t (.ref C) = some b := by
  show (if ((PySem.W.clsIn K C).isSome && PySem.W.typeIn K (.ref C) == some (.type "type")) = true then PySem.W.subIn K t (.ref C) else none) = some b
  rw [c, ty, s]
  rfl
theorem exm_mk {t : Value} {C : Addr} {cd : ClassData} {b : Bool} (e : PySem.W.subIn K (.ref C) (.type "BaseException") = some true) (c : PySem.W.clsIn K C = some cd) (ty : PySem.W.typeIn K (.ref C) = some (.type "type")) (s : PySem.W.subIn K t (.ref C) = some b) : PySem.W.exmOne K t (.ref C) = some b := by
  unfold PySem.W.exmOne
  rw [e, kcls_mk c ty s]
  rfl
theorem kit_mk {t : Value} {C : Addr} {cd : ClassData} {b : Bool} (n : (t == .ref C) = false) (c : PySem.W.clsIn K C = some cd) (ty : PySem.W.typeIn K (.ref C) = some (.type "type")) (s : PySem.W.subIn K t (.ref C) = some b) : PySem.W.kitOne K t (.ref C) = some b := by
  unfold PySem.W.kitOne
  rw [n, kcls_mk c ty s]
  rfl
theorem kit_self {t : Value} (h : (t == t) = true) : PySem.W.kitOne K t t = some true := by
  unfold PySem.W.kitOne
  rw [h]
  rfl
theorem kit_ve {C : Addr} {b : Bool} (s : PySem.W.subIn K (.ref C) (.type "ValueError") = some b) : PySem.W.kitOne K (.ref C) (.type "ValueError") = some b := by
  have e : PySem.W.kitMeta "ValueError" = true := by decide +kernel
  show (if PySem.W.kitMeta "ValueError" = true then PySem.W.subIn K (.ref C) (.type "ValueError") else none) = some b
  rw [if_pos e, s]
theorem oex_mk {C N : Addr} {nm q : Str} {bs bm : List Value} {sn : List Str} {sub : List Value} {ab : Bool} {col : Option Bool} {dd : Option Addr} {k0 k1 k2 k3 k5 : Option Value} (l : K.lookup C = some (excClassObj nm q C N bs bm true sn sub ab col dd k0 k1 k2 k3 k5 "ValueError.__new__")) (rv : PySem.HandSPX.refsVE bm = true)
    (sa : PySem.W.findIn K (.ref C) "__setattr__" = some (some (.builtin "object.__setattr__"))) (ex : PySem.W.subIn K (.ref C) (.type "BaseException") = some true) (ty : PySem.W.typeIn K (.ref C) = some (.type "type")) (kC : PySem.W.keepIn K (.ref C) = true) : OexC K C :=
  ⟨⟨nm, q, N, bs, bm, sn, sub, ab, col, dd, k0, k1, k2, k3, k5, l, rv⟩, sa, ex, ty, kC⟩
end

theorem bi_law_pool : BindF "_law_pool" "_law_pool" s_law_pool P_law_pool := fun _ _ _ _ _ _ us hl => match us, hl with | [_], _ => rfl
theorem bi_law_draw : BindF "_law_draw" "_law_draw" s_law_draw P_law_draw := fun _ _ _ _ _ _ us hl => match us, hl with | [_, _], _ => rfl
theorem bi_law_tree : BindF "_law_tree" "_law_tree" s_law_tree P_law_tree := fun _ _ _ _ _ _ us hl => match us, hl with | [_, _, _], _ => rfl
theorem bi_law_nodes : BindF "_law_nodes" "_law_nodes" s_law_nodes P_law_nodes := fun _ _ _ _ _ _ us hl => match us, hl with | [_], _ => rfl
theorem bi_law_kids : BindF "_law_kids" "_law_kids" s_law_kids P_law_kids := fun _ _ _ _ _ _ us hl => match us, hl with | [_, _, _], _ => rfl
theorem bi_law_rules : BindF "_law_rules" "_law_rules" s_law_rules P_law_rules := fun _ _ _ _ _ _ us hl => match us, hl with | [_, _], _ => rfl
theorem bi_law_breaks : BindF "_law_breaks" "_law_breaks" s_law_breaks P_law_breaks := fun _ _ _ _ _ _ us hl => match us, hl with | [_, _, _], _ => rfl
theorem bi_law_given : BindF "_law_given" "_law_given" s_law_given P_law_given := fun _ _ _ _ _ _ us hl => match us, hl with | [_], _ => rfl
theorem bi_law_spoilt : BindF "_law_spoilt" "_law_spoilt" s_law_spoilt P_law_spoilt := fun _ _ _ _ _ _ us hl => match us, hl with | [_, _, _, _], _ => rfl
theorem bi_law_refused : BindF "_law_refused" "_law_refused" s_law_refused P_law_refused := fun _ _ _ _ _ _ us hl => match us, hl with | [_, _, _], _ => rfl
theorem bi_law_own : BindF "_law_own" "_law_own" s_law_own P_law_own := fun _ _ _ _ _ _ us hl => match us, hl with | [_, _, _, _], _ => rfl
theorem bi_law_great : BindF "_law_great" "_law_great" s_law_great P_law_great := fun _ _ _ _ _ _ us hl => match us, hl with | [_, _, _, _, _, _, _], _ => rfl
theorem bi_law : BindF "law" "law" s_law P_law := fun _ _ _ _ _ _ us hl => match us, hl with | [_], _ => rfl
theorem bi_checked_row : BindF "checked_row" "checked_row" s_checked_row P_checked_row := fun _ _ _ _ _ _ us hl => match us, hl with | [_], _ => rfl
theorem bi_matched : BindF "matched" "matched" s_matched P_matched := fun _ _ _ _ _ _ us hl => match us, hl with | [_], _ => rfl
theorem bi_checked_balanced : BindF "checked_balanced" "checked_balanced" s_checked_balanced P_checked_balanced := fun _ _ _ _ _ _ us hl => match us, hl with | [_], _ => rfl
theorem bi_opening_number : BindF "opening_number" "opening_number" s_opening_number P_opening_number := fun _ _ _ _ _ _ us hl => match us, hl with | [_, _, _], _ => rfl
theorem bi_binary_of_row : BindF "binary_of_row" "binary_of_row" s_binary_of_row P_binary_of_row := fun _ _ _ _ _ _ us hl => match us, hl with | [_], _ => rfl
theorem bi_Treeinit : BindF "__init__" "Tree.__init__" s_Treeinit P_Treeinit := fun _ _ _ _ _ _ us hl => match us, hl with | [_, _], _ => rfl
theorem bi_Tree_nodes : BindF "nodes" "Tree.nodes" s_Tree_nodes P_Tree_nodes := fun _ _ _ _ _ _ us hl => match us, hl with | [_], _ => rfl
theorem bi_Tree_label_of : BindF "label_of" "Tree.label_of" s_Tree_label_of P_Tree_label_of := fun _ _ _ _ _ _ us hl => match us, hl with | [_, _], _ => rfl
theorem bi_Tree_kids_of : BindF "kids_of" "Tree.kids_of" s_Tree_kids_of P_Tree_kids_of := fun _ _ _ _ _ _ us hl => match us, hl with | [_, _], _ => rfl
theorem bi_Tree_entries : BindF "entries" "Tree.entries" s_Tree_entries P_Tree_entries := fun _ _ _ _ _ _ us hl => match us, hl with | [_], _ => rfl
theorem bi_row_of_tree : BindF "row_of_tree" "row_of_tree" s_row_of_tree P_row_of_tree := fun _ _ _ _ _ _ us hl => match us, hl with | [_], _ => rfl
theorem bi_Webinit : BindF "__init__" "Web.__init__" s_Webinit P_Webinit := fun _ _ _ _ _ _ us hl => match us, hl with | [_], _ => rfl
theorem bi_Web_checked_forest : BindF "checked_forest" "Web.checked_forest" s_Web_checked_forest P_Web_checked_forest := fun _ _ _ _ _ _ us hl => match us, hl with | [_, _], _ => rfl
theorem bi_Web_forest : BindF "forest" "Web.forest" s_Web_forest P_Web_forest := fun _ _ _ _ _ _ us hl => match us, hl with | [_, _, _, _], _ => rfl
theorem bi_Web_parts_of : BindF "parts_of" "Web.parts_of" s_Web_parts_of P_Web_parts_of := fun _ _ _ _ _ _ us hl => match us, hl with | [_, _], _ => rfl
theorem bi_Web_node_count : BindF "node_count" "Web.node_count" s_Web_node_count P_Web_node_count := fun _ _ _ _ _ _ us hl => match us, hl with | [_, _], _ => rfl
theorem bi_Web_tree_count : BindF "tree_count" "Web.tree_count" s_Web_tree_count P_Web_tree_count := fun _ _ _ _ _ _ us hl => match us, hl with | [_, _], _ => rfl
theorem bi_Web_of_row : BindF "of_row" "Web.of_row" s_Web_of_row P_Web_of_row := fun _ _ _ _ _ _ us hl => match us, hl with | [_, _], _ => rfl
theorem bi_Web_of_tree : BindF "of_tree" "Web.of_tree" s_Web_of_tree P_Web_of_tree := fun _ _ _ _ _ _ us hl => match us, hl with | [_, _], _ => rfl
theorem bi_parts_below : BindF "parts_below" "parts_below" s_parts_below P_parts_below := fun _ _ _ _ _ _ us hl => match us, hl with | [_, _], _ => rfl
theorem bi_ascending_between : BindF "ascending_between" "ascending_between" s_ascending_between P_ascending_between := fun _ _ _ _ _ _ us hl => match us, hl with | [_, _, _], _ => rfl
theorem bi_Kindinit : BindF "__init__" "Kind.__init__" s_Kindinit P_Kindinit := fun _ _ _ _ _ _ us hl => match us, hl with | [_, _, _], _ => rfl
theorem bi_Kind_roots : BindF "roots" "Kind.roots" s_Kind_roots P_Kind_roots := fun _ _ _ _ _ _ us hl => match us, hl with | [_], _ => rfl
theorem bi_Kind_rule : BindF "rule" "Kind.rule" s_Kind_rule P_Kind_rule := fun _ _ _ _ _ _ us hl => match us, hl with | [_, _], _ => rfl
theorem bi_lets_number : BindF "lets_number" "lets_number" s_lets_number P_lets_number := fun _ _ _ _ _ _ us hl => match us, hl with | [_, _], _ => rfl
theorem bi_lets_kids : BindF "lets_kids" "lets_kids" s_lets_kids P_lets_kids := fun _ _ _ _ _ _ us hl => match us, hl with | [_, _, _], _ => rfl
theorem bi_broken_rules : BindF "broken_rules" "broken_rules" s_broken_rules P_broken_rules := fun _ _ _ _ _ _ us hl => match us, hl with | [_, _], _ => rfl
theorem bi_breaking_nodes : BindF "breaking_nodes" "breaking_nodes" s_breaking_nodes P_breaking_nodes := fun _ _ _ _ _ _ us hl => match us, hl with | [_, _], _ => rfl
theorem bi_is_of_kind : BindF "is_of_kind" "is_of_kind" s_is_of_kind P_is_of_kind := fun _ _ _ _ _ _ us hl => match us, hl with | [_, _], _ => rfl
theorem bi_web_breaks : BindF "web_breaks" "web_breaks" s_web_breaks P_web_breaks := fun _ _ _ _ _ _ us hl => match us, hl with | [_, _, _], _ => rfl
theorem bi_NoNameinit : BindF "__init__" "NoName.__init__" s_NoNameinit P_NoNameinit := fun _ _ _ _ _ _ us hl => match us, hl with | [_, _], _ => rfl

section
variable {K : PySem.W.Frag} {mg : Str → Option Value} {h : Heap}
def B_Tree (K : PySem.W.Frag) (mg : Str → Option Value) : Prop := ∃ (Tree : Cf K mg "Tree") (d_Treeinit : Mf K "__init__" "Tree.__init__" s_Treeinit P_Treeinit) (_ : Mk K Tree.C d_Treeinit.a) (pa_Tree_nodes : Addr) (d_Tree_nodes : Mf K "nodes" "Tree.nodes" s_Tree_nodes P_Tree_nodes) (_ : PropOf K Tree.C "nodes" pa_Tree_nodes d_Tree_nodes.a) (d_Tree_label_of : Mf K "label_of" "Tree.label_of" s_Tree_label_of P_Tree_label_of) (_ : Meth K Tree.C "label_of" d_Tree_label_of.a) (d_Tree_kids_of : Mf K "kids_of" "Tree.kids_of" s_Tree_kids_of P_Tree_kids_of) (_ : Meth K Tree.C "kids_of" d_Tree_kids_of.a) (d_Tree_entries : Mf K "entries" "Tree.entries" s_Tree_entries P_Tree_entries) (_ : Meth K Tree.C "entries" d_Tree_entries.a) (_ : NoAttr K Tree.C "above") (_ : NoAttr K Tree.C "marks") (_ : NoAttr K Tree.C "below"), True
theorem bm_Tree {C : Addr} (X : K.In h) (G : h.Ns mainGlobals mg) (a : PySem.W.nsIn K mainGlobals "Tree" = some (some (.ref C))) (pg : PySem.W.plainGet K C Str.empty = true) (hd : PySem.W.hasDictIn K C = true) (po : PySem.W.plainOver K C = true) (sa : PySem.W.findIn K (.ref C) "__setattr__" = some (some (.builtin "object.__setattr__")))
    (e0 : ∃ d : Mf K "__init__" "Tree.__init__" s_Treeinit P_Treeinit, Mk K C d.a) (e1 : ∃ (pa : Addr) (d : Mf K "nodes" "Tree.nodes" s_Tree_nodes P_Tree_nodes), PropOf K C "nodes" pa d.a) (e2 : ∃ d : Mf K "label_of" "Tree.label_of" s_Tree_label_of P_Tree_label_of, Meth K C "label_of" d.a) (e3 : ∃ d : Mf K "kids_of" "Tree.kids_of" s_Tree_kids_of P_Tree_kids_of, Meth K C "kids_of" d.a) (e4 : ∃ d : Mf K "entries" "Tree.entries" s_Tree_entries P_Tree_entries, Meth K C "entries" d.a) (e5 : PySem.W.findIn K (.ref C) "above" = some none) (e6 : PySem.W.findIn K (.ref C) "marks" = some none) (e7 : PySem.W.findIn K (.ref C) "below" = some none) : B_Tree K mg := by
  obtain ⟨d0, k0⟩ := e0
  obtain ⟨a1, d1, k1⟩ := e1
  obtain ⟨d2, k2⟩ := e2
  obtain ⟨d3, k3⟩ := e3
  obtain ⟨d4, k4⟩ := e4
  exact ⟨⟨C, ⟨pg, hd, po, sa⟩, PySem.W.mg_of X G a⟩, d0, k0, a1, d1, k1, d2, k2, d3, k3, d4, k4, e5, e6, e7, trivial⟩
def B_Web (K : PySem.W.Frag) (mg : Str → Option Value) : Prop := ∃ (Web : Cf K mg "Web") (d_Webinit : Mf K "__init__" "Web.__init__" s_Webinit P_Webinit) (_ : Mk K Web.C d_Webinit.a) (d_Web_checked_forest : Mf K "checked_forest" "Web.checked_forest" s_Web_checked_forest P_Web_checked_forest) (_ : Meth K Web.C "checked_forest" d_Web_checked_forest.a) (d_Web_forest : Mf K "forest" "Web.forest" s_Web_forest P_Web_forest) (_ : Meth K Web.C "forest" d_Web_forest.a) (d_Web_parts_of : Mf K "parts_of" "Web.parts_of" s_Web_parts_of P_Web_parts_of) (_ : Meth K Web.C "parts_of" d_Web_parts_of.a) (d_Web_node_count : Mf K "node_count" "Web.node_count" s_Web_node_count P_Web_node_count) (_ : Meth K Web.C "node_count" d_Web_node_count.a) (d_Web_tree_count : Mf K "tree_count" "Web.tree_count" s_Web_tree_count P_Web_tree_count) (_ : Meth K Web.C "tree_count" d_Web_tree_count.a) (d_Web_of_row : Mf K "of_row" "Web.of_row" s_Web_of_row P_Web_of_row) (_ : Meth K Web.C "of_row" d_Web_of_row.a) (d_Web_of_tree : Mf K "of_tree" "Web.of_tree" s_Web_of_tree P_Web_of_tree) (_ : Meth K Web.C "of_tree" d_Web_of_tree.a) (_ : NoAttr K Web.C "kept_parts") (_ : NoAttr K Web.C "kept_nodes") (_ : NoAttr K Web.C "kept_trees") (_ : NoAttr K Web.C "names_by_parts"), True
theorem bm_Web {C : Addr} (X : K.In h) (G : h.Ns mainGlobals mg) (a : PySem.W.nsIn K mainGlobals "Web" = some (some (.ref C))) (pg : PySem.W.plainGet K C Str.empty = true) (hd : PySem.W.hasDictIn K C = true) (po : PySem.W.plainOver K C = true) (sa : PySem.W.findIn K (.ref C) "__setattr__" = some (some (.builtin "object.__setattr__")))
    (e0 : ∃ d : Mf K "__init__" "Web.__init__" s_Webinit P_Webinit, Mk K C d.a) (e1 : ∃ d : Mf K "checked_forest" "Web.checked_forest" s_Web_checked_forest P_Web_checked_forest, Meth K C "checked_forest" d.a) (e2 : ∃ d : Mf K "forest" "Web.forest" s_Web_forest P_Web_forest, Meth K C "forest" d.a) (e3 : ∃ d : Mf K "parts_of" "Web.parts_of" s_Web_parts_of P_Web_parts_of, Meth K C "parts_of" d.a) (e4 : ∃ d : Mf K "node_count" "Web.node_count" s_Web_node_count P_Web_node_count, Meth K C "node_count" d.a) (e5 : ∃ d : Mf K "tree_count" "Web.tree_count" s_Web_tree_count P_Web_tree_count, Meth K C "tree_count" d.a) (e6 : ∃ d : Mf K "of_row" "Web.of_row" s_Web_of_row P_Web_of_row, Meth K C "of_row" d.a) (e7 : ∃ d : Mf K "of_tree" "Web.of_tree" s_Web_of_tree P_Web_of_tree, Meth K C "of_tree" d.a) (e8 : PySem.W.findIn K (.ref C) "kept_parts" = some none) (e9 : PySem.W.findIn K (.ref C) "kept_nodes" = some none) (e10 : PySem.W.findIn K (.ref C) "kept_trees" = some none) (e11 : PySem.W.findIn K (.ref C) "names_by_parts" = some none) : B_Web K mg := by
  obtain ⟨d0, k0⟩ := e0
  obtain ⟨d1, k1⟩ := e1
  obtain ⟨d2, k2⟩ := e2
  obtain ⟨d3, k3⟩ := e3
  obtain ⟨d4, k4⟩ := e4
  obtain ⟨d5, k5⟩ := e5
  obtain ⟨d6, k6⟩ := e6
  obtain ⟨d7, k7⟩ := e7
  exact ⟨⟨C, ⟨pg, hd, po, sa⟩, PySem.W.mg_of X G a⟩, d0, k0, d1, k1, d2, k2, d3, k3, d4, k4, d5, k5, d6, k6, d7, k7, e8, e9, e10, e11, trivial⟩
def B_Kind (K : PySem.W.Frag) (mg : Str → Option Value) : Prop := ∃ (Kind : Cf K mg "Kind") (d_Kindinit : Mf K "__init__" "Kind.__init__" s_Kindinit P_Kindinit) (_ : Mk K Kind.C d_Kindinit.a) (pa_Kind_roots : Addr) (d_Kind_roots : Mf K "roots" "Kind.roots" s_Kind_roots P_Kind_roots) (_ : PropOf K Kind.C "roots" pa_Kind_roots d_Kind_roots.a) (d_Kind_rule : Mf K "rule" "Kind.rule" s_Kind_rule P_Kind_rule) (_ : Meth K Kind.C "rule" d_Kind_rule.a) (_ : NoAttr K Kind.C "first_labels") (_ : NoAttr K Kind.C "label_rules"), True
theorem bm_Kind {C : Addr} (X : K.In h) (G : h.Ns mainGlobals mg) (a : PySem.W.nsIn K mainGlobals "Kind" = some (some (.ref C))) (pg : PySem.W.plainGet K C Str.empty = true) (hd : PySem.W.hasDictIn K C = true) (po : PySem.W.plainOver K C = true) (sa : PySem.W.findIn K (.ref C) "__setattr__" = some (some (.builtin "object.__setattr__")))
    (e0 : ∃ d : Mf K "__init__" "Kind.__init__" s_Kindinit P_Kindinit, Mk K C d.a) (e1 : ∃ (pa : Addr) (d : Mf K "roots" "Kind.roots" s_Kind_roots P_Kind_roots), PropOf K C "roots" pa d.a) (e2 : ∃ d : Mf K "rule" "Kind.rule" s_Kind_rule P_Kind_rule, Meth K C "rule" d.a) (e3 : PySem.W.findIn K (.ref C) "first_labels" = some none) (e4 : PySem.W.findIn K (.ref C) "label_rules" = some none) : B_Kind K mg := by
  obtain ⟨d0, k0⟩ := e0
  obtain ⟨a1, d1, k1⟩ := e1
  obtain ⟨d2, k2⟩ := e2
  exact ⟨⟨C, ⟨pg, hd, po, sa⟩, PySem.W.mg_of X G a⟩, d0, k0, a1, d1, k1, d2, k2, e3, e4, trivial⟩
theorem mk_ex {nnC f ntC peC : Addr} {oc : Value} {od an : Option Addr} {osl : Array (Option Value)} {kV doc pm cdv ct : Value} {cdp cdn cdt : ClassData} (X : K.In h) (G : h.Ns mainGlobals mg)
   (aN : PySem.W.nsIn K mainGlobals "NoName" = some (some (.ref nnC)))
   (o : OexC K nnC)
   (aI : PySem.W.findIn K (.ref nnC) "__init__" = some (some (.ref f)))
   (l : K.lookup f = some ⟨oc, od, .func (PySem.W.fnOf "__init__" "NoName.__init__" (defArgs s_NoNameinit) (defBody s_NoNameinit) (defScope s_NoNameinit) .none kV doc pm an cdv ct), osl⟩)
   (c : PySem.W.codeIn K cdv "NoName.__init__" = true)
   (k : PySem.W.keepIn K (.ref f) = true)
   (tI : PySem.W.typeIn K (.ref f) = some (.type "function"))
   (nF : PySem.W.findIn K (.ref nnC) "missing" = some none)
   (aT : PySem.W.nsIn K mainGlobals "NotTree" = some (some (.ref ntC)))
   (ntX : PySem.W.excIn K ntC [.type "ValueError", .type "Exception", .type "BaseException", .type "object"] "ValueError.__new__" = true)
   (ntK : PySem.W.keepIn K (.ref ntC) = true)
   (ntB : PySem.W.subIn K (.ref ntC) (.type "BaseException") = some true)
   (ntT : PySem.W.typeIn K (.ref ntC) = some (.type "type"))
   (aP : PySem.W.nsIn K mainGlobals "PackError" = some (some (.ref peC)))
   (pB : PySem.W.subIn K (.ref peC) (.type "BaseException") = some true)
   (pc : PySem.W.clsIn K peC = some cdp)
   (pty : PySem.W.typeIn K (.ref peC) = some (.type "type"))
   (s1 : PySem.W.subIn K (.ref nnC) (.ref peC) = some true)
   (s2 : PySem.W.subIn K (.ref ntC) (.ref peC) = some true)
   (nhg : PySem.W.findIn K (.ref nnC) "__getattribute__" = some (some (.builtin "BaseException.__getattribute__")))
   (nhk : PySem.W.findIn K (.ref nnC) "__getattr__" = some none)
   (nhs : PySem.W.subIn K (.ref nnC) (.type "BaseException") = some true)
   (nhd : PySem.W.hasDictIn K nnC = true)
   (nha : PySem.W.findIn K (.ref nnC) "__class__" = some (some (.builtin "object.__class__")))
   (nhm : PySem.W.mroIn K nnC (.type "object") = some true)
   (thg : PySem.W.findIn K (.ref ntC) "__getattribute__" = some (some (.builtin "BaseException.__getattribute__")))
   (thk : PySem.W.findIn K (.ref ntC) "__getattr__" = some none)
   (ths : PySem.W.subIn K (.ref ntC) (.type "BaseException") = some true)
   (thd : PySem.W.hasDictIn K ntC = true)
   (tha : PySem.W.findIn K (.ref ntC) "__class__" = some (some (.builtin "object.__class__")))
   (thm : PySem.W.mroIn K ntC (.type "object") = some true)
   (hn : PySem.W.specialIn K (.builtin "object.__class__") "__get__" = some (some (.builtin "getset_descriptor.__get__")))
   (ht : PySem.W.takesIn K (.builtin "object.__class__") = some true)
   (nc : PySem.W.clsIn K nnC = some cdn)
   (nty : PySem.W.typeIn K (.ref nnC) = some (.type "type"))
   (tc : PySem.W.clsIn K ntC = some cdt)
   (x2 : PySem.W.subIn K (.ref nnC) (.ref ntC) = some false)
   (x4 : PySem.W.subIn K (.ref ntC) (.ref nnC) = some false)
   (x3 : PySem.W.subIn K (.ref nnC) (.type "ValueError") = some true)
   (x6 : PySem.W.subIn K (.ref ntC) (.type "ValueError") = some true)
   (d1 : ((Value.ref nnC) == (.ref ntC)) = false)
   (d2 : ((Value.ref ntC) == (.ref nnC)) = false)
   (d3 : ((Value.ref nnC) == (.ref nnC)) = true)
   (d4 : ((Value.ref ntC) == (.ref ntC)) = true) : ∃ O : Ox K mg, Ex2 K mg O :=
  ⟨⟨nnC, PySem.W.mg_of X G aN, o, ⟨f, _, fun_mk l c k, (fun_mk l c k).binds bi_NoNameinit⟩, aI, tI, nF, ntC, PySem.W.mg_of X G aT, ntX, ntK, ntB, ntT, peC, PySem.W.mg_of X G aP, exm_mk pB pc pty s1, exm_mk pB pc pty s2⟩,
    ⟨nhg, nhk, nhs, nhd⟩, ⟨nhg, nhk, nhs, nhd, nha, hn, ht, nhm⟩, ⟨thg, thk, ths, thd, tha, hn, ht, thm⟩, kit_self d3, kit_mk d1 tc ntT x2, kit_ve x3, kit_mk d2 nc nty x4, kit_self d4, kit_ve x6⟩
end

theorem walk {l : PySem.W.OpenLaw} {q : Program} {loose : List Str} {XP : (Str → Option Value) → Heap → Prop} {YP : World → Heap → Prop} {d : DefRec} {K : Params → PySem.W.Frag} (hn : l.most = some 63) (hdf : d.params.defaults = []) (hname : d.name = "law")
    (hY : ∀ (w : World) (h : Heap), YP w h → (K w.params).In h) (F : ∀ (w : World) (mg : Str → Option Value) (h : Heap), (K w.params).In h → h.Ns mainGlobals mg → ∃ (_ : Tx (K w.params) mg) (O : Ox (K w.params) mg), Ex2 (K w.params) mg O) :
    PySem.W.WalkO q loose XP YP l.row.toRowW d [] (fun f vs => PySem.call f vs) := by
  refine walk_ofG (n := 63) (k := 9) (x := "script") (sp := fun w => sp_law (K w.params)) hn (by decide) hdf ⟨rfl, by decide, by decide⟩ hY (fun w mg fa h KX G hmg => ?_) fun w H a ns hl hs => ⟨a, ns, rfl, hs, hl, fun _ => rfl⟩
  obtain ⟨T, O, X2⟩ := F w mg h KX G
  have e := T.d_law.g
  rw [hname] at hmg
  rw [hmg] at e
  obtain rfl := PySem.Value.ref.inj (Option.some.inj e)
  exact ⟨T.d_law.fd, T.d_law.b, fun base _ _ => ok_law T O X2⟩

end PT
open PySem PySem.W PyProof.Rows L2 PT
set_option maxRecDepth 100000 in
set_option maxHeartbeats 0 in
theorem PySem.Challenge.cw_packedtrees_k88_whole_kinds_on_webs_holds : PySem.Challenge.rw_packedtrees_k88_whole_kinds_on_webs.Holds := by
  w_on; o_law; k_head; (case hw => w_witness2)
  k_fill
  refine PT.walk (l := PySem.Challenge.rw_packedtrees_k88_whole_kinds_on_webs) rfl rfl rfl (fun w h Y => PySem.W.kIn_of Y) ?F
  case F =>
  intro w mg h KX G
  have b_len : mg "len" = none := PySem.W.mg_none_of KX G (by k_is)
  have b_int : mg "int" = none := PySem.W.mg_none_of KX G (by k_is)
  have b_range : mg "range" = none := PySem.W.mg_none_of KX G (by k_is)
  have b_enumerate : mg "enumerate" = none := PySem.W.mg_none_of KX G (by k_is)
  have b_tuple : mg "tuple" = none := PySem.W.mg_none_of KX G (by k_is)
  have b_list : mg "list" = none := PySem.W.mg_none_of KX G (by k_is)
  have b_repr : mg "repr" = none := PySem.W.mg_none_of KX G (by k_is)
  have b_isinstance : mg "isinstance" = none := PySem.W.mg_none_of KX G (by k_is)
  have b_sum : mg "sum" = none := PySem.W.mg_none_of KX G (by k_is)
  have b_max : mg "max" = none := PySem.W.mg_none_of KX G (by k_is)
  have b_reversed : mg "reversed" = none := PySem.W.mg_none_of KX G (by k_is)
  have b_sorted : mg "sorted" = none := PySem.W.mg_none_of KX G (by k_is)
  have b_ValueError : mg "ValueError" = none := PySem.W.mg_none_of KX G (by k_is)
  obtain ⟨t_MOST_NODES, c_MOST_NODES⟩ : ∃ t : Tok, mg "MOST_NODES" = some (.int (2 ^ 59) t) := con_mk KX G (by k_is)
  obtain ⟨t_MOST_KIDS, c_MOST_KIDS⟩ : ∃ t : Tok, mg "MOST_KIDS" = some (.int (40) t) := con_mk KX G (by k_is)
  obtain ⟨t_CLOSE, c_CLOSE⟩ : ∃ t : Tok, mg "CLOSE" = some (.int (-1) t) := con_mk KX G (by k_is)
  obtain ⟨t_MOST_READ, c_MOST_READ⟩ : ∃ t : Tok, mg "MOST_READ" = some (.int (4096) t) := con_mk KX G (by k_is)
  obtain ⟨d_law_pool⟩ : Nonempty (Df _ mg "_law_pool" s_law_pool P_law_pool) := by
    refine' ⟨df_mk KX G bi_law_pool ?z1a ?z1l ?z1c ?z1k⟩
    (case z1a => k_is)
    (case z1l => k_is)
    (case z1c => k_is)
    (case z1k => k_is)
  obtain ⟨d_law_draw⟩ : Nonempty (Df _ mg "_law_draw" s_law_draw P_law_draw) := by
    refine' ⟨df_mk KX G bi_law_draw ?z2a ?z2l ?z2c ?z2k⟩
    (case z2a => k_is)
    (case z2l => k_is)
    (case z2c => k_is)
    (case z2k => k_is)
  obtain ⟨d_law_tree⟩ : Nonempty (Df _ mg "_law_tree" s_law_tree P_law_tree) := by
    refine' ⟨df_mk KX G bi_law_tree ?z3a ?z3l ?z3c ?z3k⟩
    (case z3a => k_is)
    (case z3l => k_is)
    (case z3c => k_is)
    (case z3k => k_is)
  obtain ⟨d_law_nodes⟩ : Nonempty (Df _ mg "_law_nodes" s_law_nodes P_law_nodes) := by
    refine' ⟨df_mk KX G bi_law_nodes ?z4a ?z4l ?z4c ?z4k⟩
    (case z4a => k_is)
    (case z4l => k_is)
    (case z4c => k_is)
    (case z4k => k_is)
  obtain ⟨d_law_kids⟩ : Nonempty (Df _ mg "_law_kids" s_law_kids P_law_kids) := by
    refine' ⟨df_mk KX G bi_law_kids ?z5a ?z5l ?z5c ?z5k⟩
    (case z5a => k_is)
    (case z5l => k_is)
    (case z5c => k_is)
    (case z5k => k_is)
  obtain ⟨d_law_rules⟩ : Nonempty (Df _ mg "_law_rules" s_law_rules P_law_rules) := by
    refine' ⟨df_mk KX G bi_law_rules ?z6a ?z6l ?z6c ?z6k⟩
    (case z6a => k_is)
    (case z6l => k_is)
    (case z6c => k_is)
    (case z6k => k_is)
  obtain ⟨d_law_breaks⟩ : Nonempty (Df _ mg "_law_breaks" s_law_breaks P_law_breaks) := by
    refine' ⟨df_mk KX G bi_law_breaks ?z7a ?z7l ?z7c ?z7k⟩
    (case z7a => k_is)
    (case z7l => k_is)
    (case z7c => k_is)
    (case z7k => k_is)
  obtain ⟨d_law_given⟩ : Nonempty (Df _ mg "_law_given" s_law_given P_law_given) := by
    refine' ⟨df_mk KX G bi_law_given ?z8a ?z8l ?z8c ?z8k⟩
    (case z8a => k_is)
    (case z8l => k_is)
    (case z8c => k_is)
    (case z8k => k_is)
  obtain ⟨d_law_spoilt⟩ : Nonempty (Df _ mg "_law_spoilt" s_law_spoilt P_law_spoilt) := by
    refine' ⟨df_mk KX G bi_law_spoilt ?z9a ?z9l ?z9c ?z9k⟩
    (case z9a => k_is)
    (case z9l => k_is)
    (case z9c => k_is)
    (case z9k => k_is)
  obtain ⟨d_law_refused⟩ : Nonempty (Df _ mg "_law_refused" s_law_refused P_law_refused) := by
    refine' ⟨df_mk KX G bi_law_refused ?z10a ?z10l ?z10c ?z10k⟩
    (case z10a => k_is)
    (case z10l => k_is)
    (case z10c => k_is)
    (case z10k => k_is)
  obtain ⟨d_law_own⟩ : Nonempty (Df _ mg "_law_own" s_law_own P_law_own) := by
    refine' ⟨df_mk KX G bi_law_own ?z11a ?z11l ?z11c ?z11k⟩
    (case z11a => k_is)
    (case z11l => k_is)
    (case z11c => k_is)
    (case z11k => k_is)
  obtain ⟨d_law_great⟩ : Nonempty (Df _ mg "_law_great" s_law_great P_law_great) := by
    refine' ⟨df_mk KX G bi_law_great ?z12a ?z12l ?z12c ?z12k⟩
    (case z12a => k_is)
    (case z12l => k_is)
    (case z12c => k_is)
    (case z12k => k_is)
  obtain ⟨d_law⟩ : Nonempty (Df _ mg "law" s_law P_law) := by
    refine' ⟨df_mk KX G bi_law ?z13a ?z13l ?z13c ?z13k⟩
    (case z13a => k_is)
    (case z13l => k_is)
    (case z13c => k_is)
    (case z13k => k_is)
  obtain ⟨d_checked_row⟩ : Nonempty (Df _ mg "checked_row" s_checked_row P_checked_row) := by
    refine' ⟨df_mk KX G bi_checked_row ?z14a ?z14l ?z14c ?z14k⟩
    (case z14a => k_is)
    (case z14l => k_is)
    (case z14c => k_is)
    (case z14k => k_is)
  obtain ⟨d_matched⟩ : Nonempty (Df _ mg "matched" s_matched P_matched) := by
    refine' ⟨df_mk KX G bi_matched ?z15a ?z15l ?z15c ?z15k⟩
    (case z15a => k_is)
    (case z15l => k_is)
    (case z15c => k_is)
    (case z15k => k_is)
  obtain ⟨d_checked_balanced⟩ : Nonempty (Df _ mg "checked_balanced" s_checked_balanced P_checked_balanced) := by
    refine' ⟨df_mk KX G bi_checked_balanced ?z16a ?z16l ?z16c ?z16k⟩
    (case z16a => k_is)
    (case z16l => k_is)
    (case z16c => k_is)
    (case z16k => k_is)
  obtain ⟨d_opening_number⟩ : Nonempty (Df _ mg "opening_number" s_opening_number P_opening_number) := by
    refine' ⟨df_mk KX G bi_opening_number ?z17a ?z17l ?z17c ?z17k⟩
    (case z17a => k_is)
    (case z17l => k_is)
    (case z17c => k_is)
    (case z17k => k_is)
  obtain ⟨d_binary_of_row⟩ : Nonempty (Df _ mg "binary_of_row" s_binary_of_row P_binary_of_row) := by
    refine' ⟨df_mk KX G bi_binary_of_row ?z18a ?z18l ?z18c ?z18k⟩
    (case z18a => k_is)
    (case z18l => k_is)
    (case z18c => k_is)
    (case z18k => k_is)
  obtain ⟨d_row_of_tree⟩ : Nonempty (Df _ mg "row_of_tree" s_row_of_tree P_row_of_tree) := by
    refine' ⟨df_mk KX G bi_row_of_tree ?z19a ?z19l ?z19c ?z19k⟩
    (case z19a => k_is)
    (case z19l => k_is)
    (case z19c => k_is)
    (case z19k => k_is)
  obtain ⟨d_parts_below⟩ : Nonempty (Df _ mg "parts_below" s_parts_below P_parts_below) := by
    refine' ⟨df_mk KX G bi_parts_below ?z20a ?z20l ?z20c ?z20k⟩
    (case z20a => k_is)
    (case z20l => k_is)
    (case z20c => k_is)
    (case z20k => k_is)
  obtain ⟨d_ascending_between⟩ : Nonempty (Df _ mg "ascending_between" s_ascending_between P_ascending_between) := by
    refine' ⟨df_mk KX G bi_ascending_between ?z21a ?z21l ?z21c ?z21k⟩
    (case z21a => k_is)
    (case z21l => k_is)
    (case z21c => k_is)
    (case z21k => k_is)
  obtain ⟨d_lets_number⟩ : Nonempty (Df _ mg "lets_number" s_lets_number P_lets_number) := by
    refine' ⟨df_mk KX G bi_lets_number ?z22a ?z22l ?z22c ?z22k⟩
    (case z22a => k_is)
    (case z22l => k_is)
    (case z22c => k_is)
    (case z22k => k_is)
  obtain ⟨d_lets_kids⟩ : Nonempty (Df _ mg "lets_kids" s_lets_kids P_lets_kids) := by
    refine' ⟨df_mk KX G bi_lets_kids ?z23a ?z23l ?z23c ?z23k⟩
    (case z23a => k_is)
    (case z23l => k_is)
    (case z23c => k_is)
    (case z23k => k_is)
  obtain ⟨d_broken_rules⟩ : Nonempty (Df _ mg "broken_rules" s_broken_rules P_broken_rules) := by
    refine' ⟨df_mk KX G bi_broken_rules ?z24a ?z24l ?z24c ?z24k⟩
    (case z24a => k_is)
    (case z24l => k_is)
    (case z24c => k_is)
    (case z24k => k_is)
  obtain ⟨d_breaking_nodes⟩ : Nonempty (Df _ mg "breaking_nodes" s_breaking_nodes P_breaking_nodes) := by
    refine' ⟨df_mk KX G bi_breaking_nodes ?z25a ?z25l ?z25c ?z25k⟩
    (case z25a => k_is)
    (case z25l => k_is)
    (case z25c => k_is)
    (case z25k => k_is)
  obtain ⟨d_is_of_kind⟩ : Nonempty (Df _ mg "is_of_kind" s_is_of_kind P_is_of_kind) := by
    refine' ⟨df_mk KX G bi_is_of_kind ?z26a ?z26l ?z26c ?z26k⟩
    (case z26a => k_is)
    (case z26l => k_is)
    (case z26c => k_is)
    (case z26k => k_is)
  obtain ⟨d_web_breaks⟩ : Nonempty (Df _ mg "web_breaks" s_web_breaks P_web_breaks) := by
    refine' ⟨df_mk KX G bi_web_breaks ?z27a ?z27l ?z27c ?z27k⟩
    (case z27a => k_is)
    (case z27l => k_is)
    (case z27c => k_is)
    (case z27k => k_is)
  obtain ⟨Tree, d_Treeinit, k_Tree, pa_Tree_nodes, d_Tree_nodes, p_Tree_nodes, d_Tree_label_of, m_Tree_label_of, d_Tree_kids_of, m_Tree_kids_of, d_Tree_entries, m_Tree_entries, n_Tree_above, n_Tree_marks, n_Tree_below, -⟩ : B_Tree _ mg := by
    refine' bm_Tree KX G ?z28a ?z28pg ?z28hd ?z28po ?z28sa ?z29e ?z31e ?z33e ?z35e ?z37e ?z39e ?z40e ?z41e
    (case z28a => k_is)
    (case z28pg => k_is)
    (case z28hd => k_is)
    (case z28po => k_is)
    (case z28sa => k_is)
    case z29e =>
      refine' init_mk bi_Treeinit ?z30m ?z30kc ?z30a ?z30i ?z30l ?z30c ?z30k
      (case z30m => k_is)
      (case z30kc => k_is)
      (case z30a => k_is)
      (case z30i => k_is)
      (case z30l => k_is)
      (case z30c => k_is)
      (case z30k => k_is)
    case z31e =>
      refine' prop_mk bi_Tree_nodes ?z32a ?z32g ?z32t ?z32r ?z32l ?z32c ?z32k
      (case z32a => k_is)
      (case z32g => k_is)
      (case z32t => k_is)
      (case z32r => k_is)
      (case z32l => k_is)
      (case z32c => k_is)
      (case z32k => k_is)
    case z33e =>
      refine' meth_mk bi_Tree_label_of ?z34a ?z34i ?z34l ?z34c ?z34k
      (case z34a => k_is)
      (case z34i => k_is)
      (case z34l => k_is)
      (case z34c => k_is)
      (case z34k => k_is)
    case z35e =>
      refine' meth_mk bi_Tree_kids_of ?z36a ?z36i ?z36l ?z36c ?z36k
      (case z36a => k_is)
      (case z36i => k_is)
      (case z36l => k_is)
      (case z36c => k_is)
      (case z36k => k_is)
    case z37e =>
      refine' meth_mk bi_Tree_entries ?z38a ?z38i ?z38l ?z38c ?z38k
      (case z38a => k_is)
      (case z38i => k_is)
      (case z38l => k_is)
      (case z38c => k_is)
      (case z38k => k_is)
    (case z39e => k_is)
    (case z40e => k_is)
    (case z41e => k_is)
  obtain ⟨Web, d_Webinit, k_Web, d_Web_checked_forest, m_Web_checked_forest, d_Web_forest, m_Web_forest, d_Web_parts_of, m_Web_parts_of, d_Web_node_count, m_Web_node_count, d_Web_tree_count, m_Web_tree_count, d_Web_of_row, m_Web_of_row, d_Web_of_tree, m_Web_of_tree, n_Web_kept_parts, n_Web_kept_nodes, n_Web_kept_trees, n_Web_names_by_parts, -⟩ : B_Web _ mg := by
    refine' bm_Web KX G ?z42a ?z42pg ?z42hd ?z42po ?z42sa ?z43e ?z45e ?z47e ?z49e ?z51e ?z53e ?z55e ?z57e ?z59e ?z60e ?z61e ?z62e
    (case z42a => k_is)
    (case z42pg => k_is)
    (case z42hd => k_is)
    (case z42po => k_is)
    (case z42sa => k_is)
    case z43e =>
      refine' init_mk bi_Webinit ?z44m ?z44kc ?z44a ?z44i ?z44l ?z44c ?z44k
      (case z44m => k_is)
      (case z44kc => k_is)
      (case z44a => k_is)
      (case z44i => k_is)
      (case z44l => k_is)
      (case z44c => k_is)
      (case z44k => k_is)
    case z45e =>
      refine' meth_mk bi_Web_checked_forest ?z46a ?z46i ?z46l ?z46c ?z46k
      (case z46a => k_is)
      (case z46i => k_is)
      (case z46l => k_is)
      (case z46c => k_is)
      (case z46k => k_is)
    case z47e =>
      refine' meth_mk bi_Web_forest ?z48a ?z48i ?z48l ?z48c ?z48k
      (case z48a => k_is)
      (case z48i => k_is)
      (case z48l => k_is)
      (case z48c => k_is)
      (case z48k => k_is)
    case z49e =>
      refine' meth_mk bi_Web_parts_of ?z50a ?z50i ?z50l ?z50c ?z50k
      (case z50a => k_is)
      (case z50i => k_is)
      (case z50l => k_is)
      (case z50c => k_is)
      (case z50k => k_is)
    case z51e =>
      refine' meth_mk bi_Web_node_count ?z52a ?z52i ?z52l ?z52c ?z52k
      (case z52a => k_is)
      (case z52i => k_is)
      (case z52l => k_is)
      (case z52c => k_is)
      (case z52k => k_is)
    case z53e =>
      refine' meth_mk bi_Web_tree_count ?z54a ?z54i ?z54l ?z54c ?z54k
      (case z54a => k_is)
      (case z54i => k_is)
      (case z54l => k_is)
      (case z54c => k_is)
      (case z54k => k_is)
    case z55e =>
      refine' meth_mk bi_Web_of_row ?z56a ?z56i ?z56l ?z56c ?z56k
      (case z56a => k_is)
      (case z56i => k_is)
      (case z56l => k_is)
      (case z56c => k_is)
      (case z56k => k_is)
    case z57e =>
      refine' meth_mk bi_Web_of_tree ?z58a ?z58i ?z58l ?z58c ?z58k
      (case z58a => k_is)
      (case z58i => k_is)
      (case z58l => k_is)
      (case z58c => k_is)
      (case z58k => k_is)
    (case z59e => k_is)
    (case z60e => k_is)
    (case z61e => k_is)
    (case z62e => k_is)
  obtain ⟨Kind, d_Kindinit, k_Kind, pa_Kind_roots, d_Kind_roots, p_Kind_roots, d_Kind_rule, m_Kind_rule, n_Kind_first_labels, n_Kind_label_rules, -⟩ : B_Kind _ mg := by
    refine' bm_Kind KX G ?z63a ?z63pg ?z63hd ?z63po ?z63sa ?z64e ?z66e ?z68e ?z70e ?z71e
    (case z63a => k_is)
    (case z63pg => k_is)
    (case z63hd => k_is)
    (case z63po => k_is)
    (case z63sa => k_is)
    case z64e =>
      refine' init_mk bi_Kindinit ?z65m ?z65kc ?z65a ?z65i ?z65l ?z65c ?z65k
      (case z65m => k_is)
      (case z65kc => k_is)
      (case z65a => k_is)
      (case z65i => k_is)
      (case z65l => k_is)
      (case z65c => k_is)
      (case z65k => k_is)
    case z66e =>
      refine' prop_mk bi_Kind_roots ?z67a ?z67g ?z67t ?z67r ?z67l ?z67c ?z67k
      (case z67a => k_is)
      (case z67g => k_is)
      (case z67t => k_is)
      (case z67r => k_is)
      (case z67l => k_is)
      (case z67c => k_is)
      (case z67k => k_is)
    case z68e =>
      refine' meth_mk bi_Kind_rule ?z69a ?z69i ?z69l ?z69c ?z69k
      (case z69a => k_is)
      (case z69i => k_is)
      (case z69l => k_is)
      (case z69c => k_is)
      (case z69k => k_is)
    (case z70e => k_is)
    (case z71e => k_is)
  obtain ⟨O, X2⟩ : ∃ O : Ox _ mg, Ex2 _ mg O := by
    refine' mk_ex KX G ?yaN ?yo ?yaI ?yl ?yc ?yk ?ytI ?ynF ?yaT ?yntX ?yntK ?yntB ?yntT ?yaP ?ypB ?ypc ?ypty ?ys1 ?ys2 ?ynhg ?ynhk ?ynhs ?ynhd ?ynha ?ynhm ?ythg ?ythk ?yths ?ythd ?ytha ?ythm ?yhn ?yht ?ync ?ynty ?ytc ?yx2 ?yx4 ?yx3 ?yx6 ?yd1 ?yd2 ?yd3 ?yd4
    (case yaN => k_is)
    case yo =>
      refine' oex_mk ?w1 ?w2 ?w3 ?w4 ?w5 ?w6
      (case w1 => k_is)
      (case w2 => decide +kernel)
      (case w3 => k_is)
      (case w4 => k_is)
      (case w5 => k_is)
      (case w6 => k_is)
    (case yaI => k_is)
    (case yl => k_is)
    (case yc => k_is)
    (case yk => k_is)
    (case ytI => k_is)
    (case ynF => k_is)
    (case yaT => k_is)
    (case yntX => k_exc)
    (case yntK => k_is)
    (case yntB => k_is)
    (case yntT => k_is)
    (case yaP => k_is)
    (case ypB => k_is)
    (case ypc => k_is)
    (case ypty => k_is)
    (case ys1 => k_is)
    (case ys2 => k_is)
    (case ynhg => k_is)
    (case ynhk => k_is)
    (case ynhs => k_is)
    (case ynhd => k_is)
    (case ynha => k_is)
    (case ynhm => k_is)
    (case ythg => k_is)
    (case ythk => k_is)
    (case yths => k_is)
    (case ythd => k_is)
    (case ytha => k_is)
    (case ythm => k_is)
    (case yhn => k_is)
    (case yht => k_is)
    (case ync => k_is)
    (case ynty => k_is)
    (case ytc => k_is)
    (case yx2 => k_is)
    (case yx4 => k_is)
    (case yx3 => k_is)
    (case yx6 => k_is)
    (case yd1 => decide +kernel)
    (case yd2 => decide +kernel)
    (case yd3 => decide +kernel)
    (case yd4 => decide +kernel)
  exact ⟨{ b_len := b_len, b_int := b_int, b_range := b_range, b_enumerate := b_enumerate, b_tuple := b_tuple, b_list := b_list, b_repr := b_repr, b_isinstance := b_isinstance, b_sum := b_sum, b_max := b_max, b_reversed := b_reversed, b_sorted := b_sorted, b_ValueError := b_ValueError, t_MOST_NODES := t_MOST_NODES, c_MOST_NODES := c_MOST_NODES, t_MOST_KIDS := t_MOST_KIDS, c_MOST_KIDS := c_MOST_KIDS, t_CLOSE := t_CLOSE, c_CLOSE := c_CLOSE, t_MOST_READ := t_MOST_READ, c_MOST_READ := c_MOST_READ, d_law_pool := d_law_pool, d_law_draw := d_law_draw, d_law_tree := d_law_tree, d_law_nodes := d_law_nodes, d_law_kids := d_law_kids, d_law_rules := d_law_rules, d_law_breaks := d_law_breaks, d_law_given := d_law_given, d_law_spoilt := d_law_spoilt, d_law_refused := d_law_refused, d_law_own := d_law_own, d_law_great := d_law_great, d_law := d_law, d_checked_row := d_checked_row, d_matched := d_matched, d_checked_balanced := d_checked_balanced, d_opening_number := d_opening_number, d_binary_of_row := d_binary_of_row, d_row_of_tree := d_row_of_tree, d_parts_below := d_parts_below, d_ascending_between := d_ascending_between, d_lets_number := d_lets_number, d_lets_kids := d_lets_kids, d_broken_rules := d_broken_rules, d_breaking_nodes := d_breaking_nodes, d_is_of_kind := d_is_of_kind, d_web_breaks := d_web_breaks, d_Treeinit := d_Treeinit, k_Tree := k_Tree, pa_Tree_nodes := pa_Tree_nodes, d_Tree_nodes := d_Tree_nodes, p_Tree_nodes := p_Tree_nodes, d_Tree_label_of := d_Tree_label_of, m_Tree_label_of := m_Tree_label_of, d_Tree_kids_of := d_Tree_kids_of, m_Tree_kids_of := m_Tree_kids_of, d_Tree_entries := d_Tree_entries, m_Tree_entries := m_Tree_entries, n_Tree_above := n_Tree_above, n_Tree_marks := n_Tree_marks, n_Tree_below := n_Tree_below, Tree := Tree, d_Webinit := d_Webinit, k_Web := k_Web, d_Web_checked_forest := d_Web_checked_forest, m_Web_checked_forest := m_Web_checked_forest, d_Web_forest := d_Web_forest, m_Web_forest := m_Web_forest, d_Web_parts_of := d_Web_parts_of, m_Web_parts_of := m_Web_parts_of, d_Web_node_count := d_Web_node_count, m_Web_node_count := m_Web_node_count, d_Web_tree_count := d_Web_tree_count, m_Web_tree_count := m_Web_tree_count, d_Web_of_row := d_Web_of_row, m_Web_of_row := m_Web_of_row, d_Web_of_tree := d_Web_of_tree, m_Web_of_tree := m_Web_of_tree, n_Web_kept_parts := n_Web_kept_parts, n_Web_kept_nodes := n_Web_kept_nodes, n_Web_kept_trees := n_Web_kept_trees, n_Web_names_by_parts := n_Web_names_by_parts, Web := Web, d_Kindinit := d_Kindinit, k_Kind := k_Kind, pa_Kind_roots := pa_Kind_roots, d_Kind_roots := d_Kind_roots, p_Kind_roots := p_Kind_roots, d_Kind_rule := d_Kind_rule, m_Kind_rule := m_Kind_rule, n_Kind_first_labels := n_Kind_first_labels, n_Kind_label_rules := n_Kind_label_rules, Kind := Kind }, O, X2⟩
