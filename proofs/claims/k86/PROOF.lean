import PyProof.Rows.All
import Wide.All
import OpenK.AllK
import Wide.FinOn
import HandS.ForMost
import HandS.IsInst
import HandS.Conv
import KE.GoesMore
import HandS.TupAny
import HandS.TupMul
import HandS.Style
import HandS.SortInts
import HandS.NoneIn
import KE.KIndexOf
import HandS.OwnEq
import HandS.Exc
import HandS.ExcOwn
import HandS.TryOnly
import HandS.WordsExc
import KE.KExcSuper
import KE.DataEq
import HandS.SetKeys
import HandS.Defaults
import HandS.Head0
import HandS.Head1
import HandS.Head2
import HandS.HeadEnd
import HandS.HeadHook1
import HandS.HeadHook2
import PySem.Challenge.RW_untriedways_k86_cookeries_and_their_orde
set_option Elab.async false
set_option linter.all false
set_option maxRecDepth 100000
set_option maxHeartbeats 0
/-! Own base: heaps that grow, data on the heap, steps of readings. -/
namespace Un
open PySem L2

/-! ### heaps -/
theorem _root_.L2.Same.new {H : Hp} {p : Addr} {o : HO} (h : H p = none) : Same H (upd H p o) := fun a u e => by
  rw [upd_ne (ne_of_none e h)]
  exact e
/-- an object that H does not know may be laid, or changed -/
theorem _root_.L2.Same.out {H H' : Hp} {p : Addr} {o : HO} (e : Same H H') (h : H p = none) : Same H (upd H' p o) := fun a u ha => by
  rw [upd_ne (ne_of_none ha h)]
  exact e a u ha
theorem _root_.L2.Same.in_ {H H' : Hp} {p : Addr} {o : HO} (e : Same H H') (h : H p = none) (h' : H' p = some o) : Same (upd H p o) H' := fun a u ha => by
  by_cases hb : a = p
  · subst hb
    rw [upd_same] at ha
    rw [h', ha]
  · rw [upd_ne hb] at ha
    exact e a u ha

/-- a run from (G0, H0) to (G, H): G is what stands still of H; what stood at the begin stands, but at m -/
structure Run (m : Addr → Prop) (G0 H0 G H : Hp) : Prop where
  gg : Same G0 G
  gh : Same G H
  fr : ∀ b o, G b = some o → H0 b ≠ none → G0 b = some o
  kp : ∀ b o, H0 b = some o → ¬ m b → H b = some o
  th : ∀ b, H0 b ≠ none → H b ≠ none
abbrev m0 : Addr → Prop := fun _ => False
abbrev m1 (a : Addr) : Addr → Prop := fun b => b = a
section
variable {m m' : Addr → Prop} {G0 H0 G H G1 H1 : Hp} {p q a : Addr} {o u : HO}
theorem Run.refl (h : Same G H) : Run m G H G H := ⟨Same.refl _, h, fun _ _ e _ => e, fun _ _ e _ => e, fun _ e => e⟩
theorem Run.free (r : Run m G0 H0 G H) (h : H p = none) : H0 p = none := by
  cases e : H0 p with
  | none => rfl
  | some o => exact absurd h (r.th p (by rw [e]; simp))
theorem gfree (h : Same G H) (hp : H p = none) : G p = none := h.free hp
/-- a new thing is laid that will not change -/
theorem Run.lay (r : Run m G0 H0 G H) (h : H p = none) : Run m G0 H0 (upd G p o) (upd H p o) := by
  have h0 := r.free h
  have g0 := gfree r.gh h
  refine ⟨r.gg.trans (L2.Same.new g0), (r.gh.out g0).in_ g0 upd_same, fun b v e n => ?_, fun b v e n => ?_, fun b n => ?_⟩
  · by_cases hb : b = p
    · subst hb
      exact absurd h0 n
    · rw [upd_ne hb] at e
      exact r.fr b v e n
  · rw [upd_ne (ne_of_none e h0)]
    exact r.kp b v e n
  · by_cases hb : b = p
    · subst hb
      rw [upd_same]
      simp
    · rw [upd_ne hb]
      exact r.th b n
/-- a new thing is laid, or one of ours is changed: it stands outside G -/
theorem Run.put (r : Run m G0 H0 G H) (g : G p = none) (h : H0 p = none ∨ m p) : Run m G0 H0 G (upd H p o) := by
  refine ⟨r.gg, r.gh.out g, r.fr, fun b v e n => ?_, fun b n => ?_⟩
  · have hb : b ≠ p := by
      rintro rfl
      rcases h with h | h
      · rw [h] at e
        cases e
      · exact n h
    rw [upd_ne hb]
    exact r.kp b v e n
  · by_cases hb : b = p
    · subst hb
      rw [upd_same]
      simp
    · rw [upd_ne hb]
      exact r.th b n
theorem Run.new (r : Run m G0 H0 G H) (h : H p = none) : Run m G0 H0 G (upd H p o) := r.put (gfree r.gh h) (.inl (r.free h))
/-- one of ours stands still from now on -/
theorem Run.hold (r : Run m G0 H0 G H) (h0 : H0 p = none) (g : G p = none) (h : H p = some o) : Run m G0 H0 (upd G p o) H := by
  refine ⟨r.gg.trans (Same.new g), r.gh.in_ g h, fun b v e n => ?_, r.kp, r.th⟩
  by_cases hb : b = p
  · subst hb
    exact absurd h0 n
  · rw [upd_ne hb] at e
    exact r.fr b v e n
/-- things that nobody needs are laid -/
theorem Run.more (r : Run m G0 H0 G H) (e : Same H H1) : Run m G0 H0 G H1 := ⟨r.gg, r.gh.trans e, r.fr, fun b v h n => e b v (r.kp b v h n), fun b n z => by
  cases q : H b with
  | none => exact r.th b n q
  | some v =>
    rw [e b v q] at z
    cases z⟩
/-- a call -/
theorem Run.call (r : Run m G0 H0 G H) (c : Run m' G H G1 H1) (hm : ∀ b, m' b → m b ∨ H0 b = none) : Run m G0 H0 G1 H1 := by
  refine ⟨r.gg.trans c.gg, c.gh, fun b v e n => r.fr b v (c.fr b v e (r.th b n)) n, fun b v e n => ?_, fun b n => c.th b (r.th b n)⟩
  refine c.kp b v (r.kp b v e n) fun z => ?_
  rcases hm b z with y | y
  · exact n y
  · rw [y] at e
    cases e
theorem Run.call0 (r : Run m G0 H0 G H) (c : Run m0 G H G1 H1) : Run m G0 H0 G1 H1 := r.call c fun _ z => z.elim
theorem Run.callm (r : Run m G0 H0 G H) (c : Run m G H G1 H1) : Run m G0 H0 G1 H1 := r.call c fun _ z => .inl z
/-- what is ours stays outside of G through a call -/
theorem Run.out (c : Run m G H G1 H1) (g : G q = none) (h : H q = some o) : G1 q = none := by
  cases e : G1 q with
  | none => rfl
  | some v =>
    have z := c.fr q v e (by rw [h]; simp)
    rw [g] at z
    cases z
theorem Run.same (c : Run m0 G H G1 H1) : Same H H1 := fun b v e => c.kp b v e fun z => z
theorem Run.weak (r : Run m G0 H0 G H) (h : ∀ b, m b → m' b) : Run m' G0 H0 G H := ⟨r.gg, r.gh, r.fr, fun b v e n => r.kp b v e fun z => n (h b z), r.th⟩
theorem Run.weak0 (r : Run m0 G0 H0 G H) : Run m G0 H0 G H := r.weak fun _ z => z.elim
end

/-! ### data on the heap -/
mutual
/-- the datum d stands at v -/
def Rp (H : Hp) : PyData → V → Prop
  | .none, v => v = .non
  | .bool b, v => v = .bl b
  | .int i, v => v = .int i
  | .str s, v => v = .str s
  | .list ds, v => ∃ a xs, v = .ref a ∧ H a = some (.lst xs) ∧ RpAll H ds xs
  | .tuple ds, v => ∃ a xs, v = .ref a ∧ H a = some (.tup xs) ∧ RpAll H ds xs
  | .dict kvs, v => ∃ a, v = .ref a ∧ H a = some (.dK []) ∧ kvs = []
def RpAll (H : Hp) : List PyData → List V → Prop
  | [], xs => xs = []
  | d :: ds, xs => ∃ x r, xs = x :: r ∧ Rp H d x ∧ RpAll H ds r
end
mutual
theorem Rp.mono {H H' : Hp} (e : Same H H') : ∀ (d : PyData) (v : V), Rp H d v → Rp H' d v
  | .none, _, h => by simp only [Rp] at h ⊢; exact h
  | .bool _, _, h => by simp only [Rp] at h ⊢; exact h
  | .int _, _, h => by simp only [Rp] at h ⊢; exact h
  | .str _, _, h => by simp only [Rp] at h ⊢; exact h
  | .list ds, _, h => by
    simp only [Rp] at h ⊢
    obtain ⟨a, xs, rfl, h1, h2⟩ := h
    exact ⟨a, xs, rfl, e _ _ h1, RpAll.mono e ds xs h2⟩
  | .tuple ds, _, h => by
    simp only [Rp] at h ⊢
    obtain ⟨a, xs, rfl, h1, h2⟩ := h
    exact ⟨a, xs, rfl, e _ _ h1, RpAll.mono e ds xs h2⟩
  | .dict _, _, h => by
    simp only [Rp] at h ⊢
    obtain ⟨a, rfl, h1, h2⟩ := h
    exact ⟨a, rfl, e _ _ h1, h2⟩
theorem RpAll.mono {H H' : Hp} (e : Same H H') : ∀ (ds : List PyData) (xs : List V), RpAll H ds xs → RpAll H' ds xs
  | [], _, h => by simp only [RpAll] at h ⊢; exact h
  | d :: ds, _, h => by
    simp only [RpAll] at h ⊢
    obtain ⟨x, r, rfl, h1, h2⟩ := h
    exact ⟨x, r, rfl, Rp.mono e d x h1, RpAll.mono e ds r h2⟩
end
theorem Rp.up {H H' : Hp} {d : PyData} {v : V} (h : Rp H d v) (e : Same H H') : Rp H' d v := Rp.mono e d v h
theorem RpAll.up {H H' : Hp} {ds : List PyData} {xs : List V} (h : RpAll H ds xs) (e : Same H H') : RpAll H' ds xs := RpAll.mono e ds xs h
section
variable {H : Hp} {v : V} {a : Addr} {xs ys : List V} {ds es : List PyData}
theorem rp_int {i : Int} : Rp H (.int i) v ↔ v = .int i := by simp only [Rp]
theorem rp_bool {b : Bool} : Rp H (.bool b) v ↔ v = .bl b := by simp only [Rp]
theorem rp_none : Rp H .none v ↔ v = .non := by simp only [Rp]
theorem rp_str {s : Str} : Rp H (.str s) v ↔ v = .str s := by simp only [Rp]
theorem rp_list : Rp H (.list ds) v ↔ ∃ a xs, v = .ref a ∧ H a = some (.lst xs) ∧ RpAll H ds xs := by simp only [Rp]
theorem rp_tup : Rp H (.tuple ds) v ↔ ∃ a xs, v = .ref a ∧ H a = some (.tup xs) ∧ RpAll H ds xs := by simp only [Rp]
theorem Rp.int {i : Int} : Rp H (.int i) (.int i) := by simp only [Rp]
theorem Rp.bool {b : Bool} : Rp H (.bool b) (.bl b) := by simp only [Rp]
theorem Rp.none : Rp H .none .non := by simp only [Rp]
theorem Rp.str {s : Str} : Rp H (.str s) (.str s) := by simp only [Rp]
theorem Rp.lst (h : H a = some (.lst xs)) (r : RpAll H ds xs) : Rp H (.list ds) (.ref a) := rp_list.mpr ⟨a, xs, rfl, h, r⟩
theorem Rp.tup (h : H a = some (.tup xs)) (r : RpAll H ds xs) : Rp H (.tuple ds) (.ref a) := rp_tup.mpr ⟨a, xs, rfl, h, r⟩
theorem Rp.dct (h : H a = some (.dK [])) : Rp H (.dict []) (.ref a) := by simp only [Rp]; exact ⟨a, rfl, h, trivial⟩
theorem RpAll.nil : RpAll H [] [] := by simp only [RpAll]
theorem RpAll.cons {d : PyData} (h : Rp H d v) (r : RpAll H ds xs) : RpAll H (d :: ds) (v :: xs) := by simp only [RpAll]; exact ⟨v, xs, rfl, h, r⟩
theorem rpAll_cons {d : PyData} : RpAll H (d :: ds) xs ↔ ∃ x r, xs = x :: r ∧ Rp H d x ∧ RpAll H ds r := by simp only [RpAll]
theorem rpAll_nil : RpAll H [] xs ↔ xs = [] := by simp only [RpAll]
theorem RpAll.length : ∀ {ds : List PyData} {xs : List V}, RpAll H ds xs → xs.length = ds.length
  | [], _, h => by rw [rpAll_nil.mp h]; rfl
  | d :: ds, _, h => by
    obtain ⟨x, r, rfl, _, h2⟩ := rpAll_cons.mp h
    simp [h2.length]
theorem RpAll.get : ∀ {ds : List PyData} {xs : List V} {i : Nat} {x : V}, RpAll H ds xs → xs[i]? = some x → ∃ d, ds[i]? = some d ∧ Rp H d x
  | [], _, _, _, h, e => by rw [rpAll_nil.mp h] at e; simp at e
  | d :: ds, _, i, x, h, e => by
    obtain ⟨y, r, rfl, h1, h2⟩ := rpAll_cons.mp h
    cases i with
    | zero =>
      simp at e
      subst e
      exact ⟨d, rfl, h1⟩
    | succ i =>
      obtain ⟨d', q1, q2⟩ := h2.get (i := i) (x := x) (by simpa using e)
      exact ⟨d', by simpa using q1, q2⟩
theorem RpAll.getD {i : Nat} {d : PyData} (h : RpAll H ds xs) (e : ds[i]? = some d) : ∃ x, xs[i]? = some x ∧ Rp H d x := by
  have hl := h.length
  have hi : i < xs.length := by rw [hl]; exact (List.getElem?_eq_some_iff.mp e).1
  obtain ⟨d', q1, q2⟩ := h.get (i := i) (List.getElem?_eq_getElem hi)
  rw [e] at q1
  cases q1
  exact ⟨_, List.getElem?_eq_getElem hi, q2⟩
theorem RpAll.append : ∀ {ds es : List PyData} {xs ys : List V}, RpAll H ds xs → RpAll H es ys → RpAll H (ds ++ es) (xs ++ ys)
  | [], _, _, _, h, h' => by rw [rpAll_nil.mp h]; exact h'
  | d :: ds, _, _, _, h, h' => by
    obtain ⟨x, r, rfl, h1, h2⟩ := rpAll_cons.mp h
    exact .cons h1 (h2.append h')
theorem RpAll.snoc {d : PyData} (h : RpAll H ds xs) (r : Rp H d v) : RpAll H (ds ++ [d]) (xs ++ [v]) := h.append (.cons r .nil)
theorem RpAll.take : ∀ {ds : List PyData} {xs : List V} (n : Nat), RpAll H ds xs → RpAll H (ds.take n) (xs.take n)
  | _, _, 0, _ => by simp [rpAll_nil]
  | [], _, n + 1, h => by rw [rpAll_nil.mp h]; simp [rpAll_nil]
  | d :: ds, _, n + 1, h => by
    obtain ⟨x, r, rfl, h1, h2⟩ := rpAll_cons.mp h
    exact .cons h1 (h2.take n)
theorem RpAll.drop : ∀ {ds : List PyData} {xs : List V} (n : Nat), RpAll H ds xs → RpAll H (ds.drop n) (xs.drop n)
  | _, _, 0, h => h
  | [], _, n + 1, h => by rw [rpAll_nil.mp h]; simp [rpAll_nil]
  | d :: ds, _, n + 1, h => by
    obtain ⟨x, r, rfl, _, h2⟩ := rpAll_cons.mp h
    exact h2.drop n
theorem RpAll.rev : ∀ {ds : List PyData} {xs : List V}, RpAll H ds xs → RpAll H ds.reverse xs.reverse
  | [], _, h => by rw [rpAll_nil.mp h]; simp [rpAll_nil]
  | d :: ds, _, h => by
    obtain ⟨x, r, rfl, h1, h2⟩ := rpAll_cons.mp h
    rw [List.reverse_cons, List.reverse_cons]
    exact h2.rev.snoc h1
theorem rpAll_ints {ns : List Int} : RpAll H (ns.map PyData.int) xs ↔ xs = ns.map V.int := by
  induction ns generalizing xs with
  | nil => simp [rpAll_nil]
  | cons n ns ih =>
    rw [List.map_cons, rpAll_cons, List.map_cons]
    constructor
    · rintro ⟨x, r, rfl, h1, h2⟩
      rw [rp_int.mp h1, ih.mp h2]
    · rintro rfl
      exact ⟨_, _, rfl, Rp.int, ih.mpr rfl⟩
theorem RpAll.ints {ns : List Int} : RpAll H (ns.map PyData.int) (ns.map V.int) := rpAll_ints.mpr rfl
end
mutual
/-- no dict in it -/
def plainD : PyData → Bool
  | .list ds => plainL ds
  | .tuple ds => plainL ds
  | .dict _ => false
  | _ => true
def plainL : List PyData → Bool
  | [] => true
  | d :: ds => plainD d && plainL ds
end
mutual
theorem Rp.dp {K : PySem.W.Frag} {H : Hp} : ∀ (d : PyData) (v : V), Rp H d v → plainD d = true → Dp K H v d
  | .none, _, h, _ => by rw [rp_none.mp h]; exact .non
  | .bool _, _, h, _ => by rw [rp_bool.mp h]; exact .bl _
  | .int _, _, h, _ => by rw [rp_int.mp h]; exact .int _
  | .str _, _, h, _ => by rw [rp_str.mp h]; exact .str _
  | .list ds, _, h, p => by
    obtain ⟨a, xs, rfl, h1, h2⟩ := rp_list.mp h
    exact .lst (SqL.of h1) (RpAll.dp ds xs h2 (by simpa only [plainD] using p))
  | .tuple ds, _, h, p => by
    obtain ⟨a, xs, rfl, h1, h2⟩ := rp_tup.mp h
    exact .tup (SqT.of h1) (RpAll.dp ds xs h2 (by simpa only [plainD] using p))
  | .dict _, _, _, p => by simp [plainD] at p
theorem RpAll.dp {K : PySem.W.Frag} {H : Hp} : ∀ (ds : List PyData) (xs : List V), RpAll H ds xs → plainL ds = true → DpAll K H xs ds
  | [], _, h, _ => by rw [rpAll_nil.mp h]; exact .nil
  | d :: ds, _, h, p => by
    obtain ⟨x, r, rfl, h1, h2⟩ := rpAll_cons.mp h
    simp only [plainL, Bool.and_eq_true] at p
    exact .cons (Rp.dp d x h1 p.1) (RpAll.dp ds r h2 p.2)
end

/-! ### the type of a datum -/
def tyD : PyData → String
  | .none => "NoneType"
  | .bool _ => "bool"
  | .int _ => "int"
  | .str _ => "str"
  | .list _ => "list"
  | .tuple _ => "tuple"
  | .dict _ => "dict"
theorem Rp.ty {K : PySem.W.Frag} {H : Hp} : ∀ {d : PyData} {v : V}, Rp H d v → TyX K H v (.type (tyD d))
  | .none, _, h => by rw [rp_none.mp h]; exact .base .non
  | .bool _, _, h => by rw [rp_bool.mp h]; exact .base (.bl _)
  | .int _, _, h => by rw [rp_int.mp h]; exact .base (.int _)
  | .str _, _, h => by rw [rp_str.mp h]; exact .base (.str _)
  | .list _, _, h => by
    obtain ⟨a, xs, rfl, h1, _⟩ := rp_list.mp h
    exact .base (.lst h1)
  | .tuple _, _, h => by
    obtain ⟨a, xs, rfl, h1, _⟩ := rp_tup.mp h
    exact .base (.tup h1)
  | .dict _, _, h => by
    simp only [Rp] at h
    obtain ⟨a, rfl, h1, _⟩ := h
    exact .base (.dK h1)
/-- isinstance(x, int), isinstance(x, bool), isinstance(x, tuple), ... -/
def isaS (T t : String) : Bool := t == T || (T == "int" && t == "bool")
def isaD (T : String) (d : PyData) : Bool := isaS T (tyD d)
theorem isaD_kit {K : PySem.W.Frag} (T : String) (hT : T = "int" ∨ T = "bool" ∨ T = "tuple" ∨ T = "str" ∨ T = "list" ∨ T = "dict") (d : PyData) : PySem.W.kitOne K (.type (tyD d)) (.type T) = some (isaD T d) := by
  have h : ∀ t : String, t = "NoneType" ∨ t = "bool" ∨ t = "int" ∨ t = "str" ∨ t = "list" ∨ t = "tuple" ∨ t = "dict" → kitB t T = some (isaS T t) := by
    intro t ht
    rcases hT with rfl | rfl | rfl | rfl | rfl | rfl <;> rcases ht with rfl | rfl | rfl | rfl | rfl | rfl | rfl <;> decide +kernel
  refine kit_ty (h _ ?_)
  cases d <;> simp [tyD]
end Un
/-! Own rules over the hand layer's: readings over data. -/
namespace Un
open PySem L2 PySem.Spec PyProof.Rows
section
variable {X : Cx} {a b e : Expr} {ta tb te : TE} {pos p : Pos}
theorem _root_.L2.OpR.imp {f : Value → Value → Sem Value} {r r' : R2} (h : OpR X f r) (hi : ∀ x y H Q, r' x y H Q → r x y H Q) : OpR X f r' := fun pins s σ H x y v u Q I rx ry q => h pins s σ H x y v u Q I rx ry (hi _ _ _ _ q)
theorem _root_.L2.CallR.imp {f : Value} {r r' : List V → Hp → VK → Prop} (h : CallR X f r) (hi : ∀ xs H Q, r' xs H Q → r xs H Q) : CallR X f r' := fun pins s σ H xs us Q I rx q => h pins s σ H xs us Q I rx (hi _ _ _ q)
/-! ### isinstance of a datum -/
def okT (T : String) : Bool := T == "int" || T == "bool" || T == "tuple" || T == "str" || T == "list" || T == "dict"
theorem okT_iff {T : String} (h : okT T = true) : T = "int" ∨ T = "bool" ∨ T = "tuple" ∨ T = "str" ∨ T = "list" ∨ T = "dict" := by
  simpa only [okT, Bool.or_eq_true, beq_iff_eq, or_assoc] using h
def rIsD : List V → Hp → VK → Prop := fun xs H Q => ∃ x T d, xs = [x, .ty T] ∧ okT T = true ∧ Rp H d x ∧ Q (.bl (isaD T d)) H
theorem call_isD : CallR X (.builtin "isinstance") rIsD := L2.CallR.imp call_isi fun xs H Q h => by
  obtain ⟨x, T, d, rfl, hT, hd, q⟩ := h
  exact ⟨x, .ty T, _, _, _, rfl, .ty T, hd.ty, isaD_kit T (okT_iff hT) d, q⟩
theorem isa_int (d : PyData) : isaD "int" d = (match d with | .int _ => true | .bool _ => true | _ => false) := by cases d <;> rfl
theorem isa_bool (d : PyData) : isaD "bool" d = (match d with | .bool _ => true | _ => false) := by cases d <;> rfl
theorem isa_tup (d : PyData) : isaD "tuple" d = (match d with | .tuple _ => true | _ => false) := by cases d <;> rfl
theorem isa_str (d : PyData) : isaD "str" d = (match d with | .str _ => true | _ => false) := by cases d <;> rfl
theorem isa_list (d : PyData) : isaD "list" d = (match d with | .list _ => true | _ => false) := by cases d <;> rfl
theorem isa_dict (d : PyData) : isaD "dict" d = (match d with | .dict _ => true | _ => false) := by cases d <;> rfl
/-! ### == of data -/
def rEqP : R2 := fun x y H Q => ∃ d e, Rp H d x ∧ Rp H e y ∧ plainD d = true ∧ plainD e = true ∧ SeqAt.shaped d = true ∧ SeqAt.shaped e = true ∧ Q (.bl (PyData.eqv d e)) H
def rNeP : R2 := fun x y H Q => ∃ d e, Rp H d x ∧ Rp H e y ∧ plainD d = true ∧ plainD e = true ∧ SeqAt.shaped d = true ∧ SeqAt.shaped e = true ∧ Q (.bl (!PyData.eqv d e)) H
theorem op_eqP (hu : X.A.units + 64 < cLine) : OpR X (compareOp .Eq) rEqP := L2.OpR.imp (op_eqD hu) fun x y H Q h => by
  obtain ⟨d, e, h1, h2, p1, p2, s1, s2, q⟩ := h
  exact ⟨d, e, h1.dp _ _ p1, h2.dp _ _ p2, s1, s2, q⟩
theorem op_neP (hu : X.A.units + 64 < cLine) : OpR X (compareOp .NotEq) rNeP := L2.OpR.imp (op_neD hu) fun x y H Q h => by
  obtain ⟨d, e, h1, h2, p1, p2, s1, s2, q⟩ := h
  exact ⟨d, e, h1.dp _ _ p1, h2.dp _ _ p2, s1, s2, q⟩
/-! ### names for readings -/
def rAddI : R2 := rI0 fun i j => .int (i + j)
def rSubI : R2 := rI0 fun i j => .int (i - j)
def rMulI : R2 := rI CMul fun i j => .int (i * j)
def rDivI : R2 := rI CDiv fun i j => .int (i / j)
def rModI : R2 := rI (fun _ j => 0 < j) fun i j => .int (i % j)
def rPowI : R2 := rI CPow fun i j => .int (i ^ j.toNat)
def rShlI : R2 := rI CPow fun i j => .int (i * 2 ^ j.toNat)
def rShrI : R2 := rI (fun _ j => 0 ≤ j) fun i j => .int (i / 2 ^ j.toNat)
def rAndI : R2 := rI0 fun i j => .int (Builtin.bitAnd i j)
def rOrI : R2 := rI0 fun i j => .int (Builtin.bitOr i j)
def rLtI : R2 := rI0 fun i j => .bl (decide (i < j))
def rLeI : R2 := rI0 fun i j => .bl (decide (i ≤ j))
def rGtI : R2 := rI0 fun i j => .bl (decide (j < i))
def rGeI : R2 := rI0 fun i j => .bl (decide (j ≤ i))
theorem u_add : OpR X (binaryOp .Add) rAddI := op_add
theorem u_sub : OpR X (binaryOp .Sub) rSubI := op_sub
theorem u_mul : OpR X (binaryOp .Mult) rMulI := op_mul
theorem u_div : OpR X (binaryOp .FloorDiv) rDivI := op_fdiv
theorem u_mod : OpR X (binaryOp .Mod) rModI := op_mod
theorem u_pow : OpR X (binaryOp .Pow) rPowI := op_pow
theorem u_shl : OpR X (binaryOp .LShift) rShlI := op_shl
theorem u_shr : OpR X (binaryOp .RShift) rShrI := op_shr
theorem u_and : OpR X (binaryOp .BitAnd) rAndI := op_and
theorem u_or : OpR X (binaryOp .BitOr) rOrI := op_or
theorem u_lt : OpR X (compareOp .Lt) rLtI := op_lt
theorem u_le : OpR X (compareOp .LtE) rLeI := op_le
theorem u_gt : OpR X (compareOp .Gt) rGtI := op_gt
theorem u_ge : OpR X (compareOp .GtE) rGeI := op_ge
def rNeg : V → Hp → VK → Prop := rU fun i => .int (-i)
def rInv : V → Hp → VK → Prop := rU fun i => .int (Builtin.bitNot i)
theorem u_neg : UnR X (unaryOp .USub) rNeg := un_neg
theorem u_inv : UnR X (unaryOp .Invert) rInv := un_inv
/-- membership of flat things in a list or a tuple -/
def rInF (neg : Bool) : R2 := fun x y H Q => ∃ p xs, y = .ref p ∧ (H p = some (.lst xs) ∨ H p = some (.tup xs)) ∧ flatV x = true ∧ xs.all flatV = true ∧ Q (.bl (if neg then !inV x xs else inV x xs)) H
theorem u_in : OpR X (compareOp .In) (rInF false) := L2.OpR.imp op_in_seq fun x y H Q h => by
  obtain ⟨p, xs, rfl, hp, h1, h2, q⟩ := h
  exact ⟨p, xs, rfl, hp.imp SqL.of SqT.of, h1, h2, q⟩
theorem u_notin : OpR X (compareOp .NotIn) (rInF true) := L2.OpR.imp op_notIn_seq fun x y H Q h => by
  obtain ⟨p, xs, rfl, hp, h1, h2, q⟩ := h
  exact ⟨p, xs, rfl, hp.imp SqL.of SqT.of, h1, h2, q⟩
def rLenF : List V → Hp → VK → Prop := fun xs H Q => ∃ p ys, xs = [.ref p] ∧ (H p = some (.lst ys) ∨ H p = some (.tup ys)) ∧ Q (.int ys.length) H
theorem u_len : CallR X (.builtin "len") rLenF := L2.CallR.imp call_len_seq fun xs H Q h => by
  obtain ⟨p, ys, rfl, hp, q⟩ := h
  exact ⟨p, ys, rfl, hp.imp SqL.of SqT.of, q⟩
theorem _root_.L2.IxR.imp {r r' : R2} (h : IxR X r) (hi : ∀ x y H Q, r' x y H Q → r x y H Q) : IxR X r' := fun value slice pins s σ H x y v u Q I rx ry q hs => h value slice pins s σ H x y v u Q I rx ry (hi _ _ _ _ q) hs
def rIxF : R2 := fun x y H Q => ∃ p xs i v, x = .ref p ∧ y = .int i ∧ (H p = some (.lst xs) ∨ H p = some (.tup xs)) ∧ atI xs i = some v ∧ Q v H
theorem u_ix : IxR X rIxF := L2.IxR.imp (ix_list.or ix_tup) fun x y H Q h => by
  obtain ⟨p, xs, i, v, rfl, rfl, hp, ha, q⟩ := h
  rcases hp with hp | hp
  · exact .inl ⟨p, xs, i, v, rfl, rfl, SqL.of hp, ha, q⟩
  · exact .inr ⟨p, xs, i, v, rfl, rfl, SqT.of hp, ha, q⟩
def rAllF : List V → Hp → VK → Prop := fun vs H Q => ∃ (a : Addr) (bs : List Bool), vs = [V.ref a] ∧ H a = some (.lst (bs.map V.bl)) ∧ Q (.bl (bs.all id)) H
def rAnyF : List V → Hp → VK → Prop := fun vs H Q => ∃ (a : Addr) (bs : List Bool), vs = [V.ref a] ∧ H a = some (.lst (bs.map V.bl)) ∧ Q (.bl (bs.any id)) H
theorem u_all (hc : X.calm = true) : CallR X (.builtin "all") rAllF := L2.CallR.imp (cr_all hc) fun xs H Q h => by
  obtain ⟨p, ys, rfl, hp, q⟩ := h
  exact ⟨p, ys, rfl, SqL.of hp, q⟩
theorem u_any (hc : X.calm = true) : CallR X (.builtin "any") rAnyF := L2.CallR.imp (cr_any hc) fun xs H Q h => by
  obtain ⟨p, ys, rfl, hp, q⟩ := h
  exact ⟨p, ys, rfl, SqL.of hp, q⟩
/-- tuple(xs) of a list; list(xs) of a list or a tuple -/
def rTupF : List V → Hp → VK → Prop := fun xs H Q => ∃ p ys, xs = [.ref p] ∧ H p = some (.lst ys) ∧ ∀ l, H l = none → Q (.ref l) (upd H l (.tup ys))
theorem u_tup : CallR X (.type "tuple") rTupF := L2.CallR.imp call_tuple_of fun xs H Q h => by
  obtain ⟨p, ys, rfl, hp, q⟩ := h
  exact ⟨p, ys, rfl, .inl ⟨SqL.of hp, q⟩⟩
def rLstF : List V → Hp → VK → Prop := fun xs H Q => ∃ p ys, xs = [.ref p] ∧ (H p = some (.lst ys) ∨ H p = some (.tup ys)) ∧ ∀ l, H l = none → Q (.ref l) (upd H l (.lst ys))
theorem u_lst : CallR X (.type "list") rLstF := L2.CallR.imp call_list_of fun xs H Q h => by
  obtain ⟨p, ys, rfl, hp, q⟩ := h
  exact ⟨p, ys, rfl, hp.imp SqL.of SqT.of, q⟩
def rAbs : List V → Hp → VK → Prop := fun xs H Q => ∃ i, xs = [.int i] ∧ Q (.int (if i < 0 then -i else i)) H
theorem u_abs : CallR X (.builtin "abs") rAbs := call_abs
def rMin2 : List V → Hp → VK → Prop := fun xs H Q => ∃ i j, xs = [.int i, .int j] ∧ Q (.int (if j < i then j else i)) H
theorem u_min2 (hc : X.calm = true) : CallR X (.builtin "min") rMin2 := call_min2 hc
def rMax2 : List V → Hp → VK → Prop := fun xs H Q => ∃ i j, xs = [.int i, .int j] ∧ Q (.int (if j > i then j else i)) H
theorem u_max2 (hc : X.calm = true) : CallR X (.builtin "max") rMax2 := call_max2 hc
def rInt1 : List V → Hp → VK → Prop := fun xs H Q => ∃ i, xs = [.int i] ∧ Q (.int i) H
theorem u_int1 : CallR X (.type "int") rInt1 := L2.CallR.imp call_int1 fun xs H Q ⟨i, e, q⟩ => .inl ⟨i, e, q⟩
def rIntB : List V → Hp → VK → Prop := fun xs H Q => ∃ k, xs = [.bl k] ∧ Q (.int (if k then 1 else 0)) H
theorem u_intB : CallR X (.type "int") rIntB := L2.CallR.imp call_int1 fun xs H Q ⟨i, e, q⟩ => .inr ⟨i, e, q⟩
def rStrI : List V → Hp → VK → Prop := fun xs H Q => ∃ i, xs = [.int i] ∧ i.natAbs.log2 < 1920 ∧ Q (.str (toString i)) H
theorem u_strI : CallR X (.type "str") rStrI := call_str_int
def rIsNon : R2 := fun x y H Q => y = .non ∧ Q (.bl (decide (x = .non))) H
def rNotNon : R2 := fun x y H Q => y = .non ∧ Q (.bl (!decide (x = .non))) H
theorem u_isN : OpR X (compareOp .Is) rIsNon := op_isN
theorem u_notN : OpR X (compareOp .IsNot) rNotNon := op_notN
/-- truth of an int, as a test -/
def tTruI (te : TE) : TT := fun σ H Q => te σ H fun x H1 => ∃ i, x = .int i ∧ Q (i != 0) H1
end

/-! ### steps -/
section
variable {σ : L2.St} {H : Hp} {D : Ends} {t u : TS} {te ta tb tc : TE} {tt tu : TT} {tr : TA} {v x y : V} {i j : Int} {n : Nat} {Q : VK} {QB : Bool → Hp → Prop} {QA : List V → Hp → Prop} {g : Int → Int → V} {C : Int → Int → Prop} {b : Bool} {r : R2}
theorem s_seq (h : t { D with nx := u D } σ H) : tSeq t u D σ H := h
theorem s_next (h : D.nx σ H) : tNext D σ H := h
theorem s_brk (h : D.bk σ H) : tBreak D σ H := h
theorem s_cont (h : D.ct σ H) : tCont D σ H := h
theorem s_asg (h : te σ H fun x H1 => D.nx (σ.set n (some x)) H1) : tAsg te (gName n) D σ H := h
theorem s_drop (h : te σ H fun _ H1 => D.nx σ H1) : tDrop te D σ H := h
theorem s_ret (h : te σ H D.rt) : tRet te D σ H := h
theorem s_retN (h : D.rt .non H) : tRetN D σ H := h
theorem s_ifs (h : tt σ H fun b H1 => if b = true then t D σ H1 else u D σ H1) : tIfS tt t u D σ H := h
theorem s_test (h : te σ H fun x H' => ∃ k, x = .bl k ∧ QB k H') : tTest te σ H QB := h
theorem s_tB (h : te σ H fun x H' => ∃ k, x = .bl k ∧ QB k H') : tB te σ H QB := h
theorem s_k {P : Bool → Prop} (h : P b) : ∃ k, V.bl b = .bl k ∧ P k := ⟨b, rfl, h⟩
theorem s_chain {r r' : R2} (h : ta σ H fun x H1 => tb σ H1 fun y H2 => r x y H2 fun z H3 => ∃ k, z = .bl k ∧ if k = true then tc σ H3 fun w H4 => r' y w H4 Q else Q (.bl false) H3) : tChain r r' ta tb tc σ H Q := h
theorem s_for {wi : TI} {g : TG} (h : wi σ H fun J H1 => ∃ W : Nat → Nat → L2.St → Hp → Prop, (∃ m, W 0 m σ H1) ∧ ∀ i m σ H, W i m σ H →
  (J.stop i H ∧ D.nx σ H) ∨ (J.go i H ∧ ∃ N : L2.St → Hp → Prop, (∀ σ' H', N σ' H' → ∃ m', m' < m ∧ W (i + 1) m' σ' H') ∧ ∀ x H', J.yld i H x H' → g x σ H' fun σ2 H2 => t { D with nx := N, ct := N, bk := D.nx } σ2 H2)) : tFor wi g t D σ H := h
/-- for x in a tuple, by an invariant -/
theorem s_forT {K : PySem.W.Frag} {g : TG} {a : Addr} {xs : List V} (Pv : Nat → L2.St → Hp → Prop) (ha : H a = some (.tup xs)) (h0 : Pv 0 σ H) (hl : ∀ i σ' H', Pv i σ' H' → H' a = some (.tup xs))
    (hs : ∀ i x σ' H', xs[i]? = some x → Pv i σ' H' → g x σ' H' fun σ2 H2 => t { D with nx := Pv (i + 1), ct := Pv (i + 1), bk := D.nx } σ2 H2) (hd : ∀ σ' H', Pv xs.length σ' H' → D.nx σ' H')
    (he : ∀ Q : VK, Q (.ref a) H → te σ H Q) : tFor (iTup K te) g t D σ H := by
  refine he _ ?_
  exact ⟨a, rfl, ⟨xs, SqT.of ha⟩, for_tup (K := K) (a := a) (xs := xs) Pv h0 (fun i σ' H' _ p => SqT.of (hl i σ' H' p)) hs hd⟩
theorem s_not (h : tt σ H fun c H1 => QB (!c) H1) : tNot tt σ H QB := h
theorem s_and (h : tt σ H fun c H1 => if c = true then tu σ H1 QB else QB false H1) : tAnd tt tu σ H QB := h
theorem s_or (h : tt σ H fun c H1 => if c = true then QB true H1 else tu σ H1 QB) : tOr tt tu σ H QB := h
theorem s_notV (h : te σ H fun x H1 => ∃ c, x = .bl c ∧ Q (.bl (!c)) H1) : tNotV te σ H Q := h
theorem s_andV (h : ta σ H fun x H1 => ∃ c, x = .bl c ∧ if c = true then tb σ H1 Q else Q (.bl false) H1) : tAndV ta tb σ H Q := h
theorem s_orV (h : ta σ H fun x H1 => ∃ c, x = .bl c ∧ if c = true then Q (.bl true) H1 else tb σ H1 Q) : tOrV ta tb σ H Q := h
theorem s_if (h : tt σ H fun c H1 => if c = true then ta σ H1 Q else tb σ H1 Q) : tIf tt ta tb σ H Q := h
theorem s_var (h : σ[n]? = some (some v)) (q : Q v H) : tVar n σ H Q := ⟨v, h, q⟩
theorem s_c (q : Q v H) : tC v σ H Q := q
theorem s_op (h : ta σ H fun x H1 => tb σ H1 fun y H2 => r x y H2 Q) : tOp r ta tb σ H Q := h
theorem s_un {r : V → Hp → VK → Prop} (h : te σ H fun x H1 => r x H1 Q) : tUn r te σ H Q := h
theorem s_nil (h : QA [] H) : tNil σ H QA := h
theorem s_cons (h : te σ H fun x H1 => tr σ H1 fun xs H2 => QA (x :: xs) H2) : tCons te tr σ H QA := h
theorem s_CB {r : List V → Hp → VK → Prop} (h : tr σ H fun vs H1 => r vs H1 Q) : tCB r tr σ H Q := h
theorem s_call {sp : Sp} {E : XK} {dvs : List V} (h : tr σ H fun vs H1 => sp (vs ++ dvs) H1 Q E) : tCall sp dvs E tr σ H Q := h
theorem s_tup (h : tr σ H fun xs H1 => xs.length ≤ sizeLine ∧ ∀ p, H1 p = none → Q (.ref p) (upd H1 p (.tup xs))) : tTup tr σ H Q := h
theorem s_lst (h : tr σ H fun xs H1 => xs.length ≤ sizeLine ∧ ∀ p, H1 p = none → Q (.ref p) (upd H1 p (.lst xs))) : tLst tr σ H Q := h
theorem s_add (q : Q (.int (i + j)) H) : rAddI (.int i) (.int j) H Q := ⟨i, j, rfl, rfl, q⟩
theorem s_sub (q : Q (.int (i - j)) H) : rSubI (.int i) (.int j) H Q := ⟨i, j, rfl, rfl, q⟩
theorem s_mul (c : CMul i j) (q : Q (.int (i * j)) H) : rMulI (.int i) (.int j) H Q := ⟨i, j, rfl, rfl, c, q⟩
theorem s_div (c : CDiv i j) (q : Q (.int (i / j)) H) : rDivI (.int i) (.int j) H Q := ⟨i, j, rfl, rfl, c, q⟩
theorem s_mod (c : 0 < j) (q : Q (.int (i % j)) H) : rModI (.int i) (.int j) H Q := ⟨i, j, rfl, rfl, c, q⟩
theorem s_pow (c : CPow i j) (q : Q (.int (i ^ j.toNat)) H) : rPowI (.int i) (.int j) H Q := ⟨i, j, rfl, rfl, c, q⟩
theorem s_shl (c : CPow i j) (q : Q (.int (i * 2 ^ j.toNat)) H) : rShlI (.int i) (.int j) H Q := ⟨i, j, rfl, rfl, c, q⟩
theorem s_shr (c : 0 ≤ j) (q : Q (.int (i / 2 ^ j.toNat)) H) : rShrI (.int i) (.int j) H Q := ⟨i, j, rfl, rfl, c, q⟩
theorem s_band (q : Q (.int (Builtin.bitAnd i j)) H) : rAndI (.int i) (.int j) H Q := ⟨i, j, rfl, rfl, q⟩
theorem s_bor (q : Q (.int (Builtin.bitOr i j)) H) : rOrI (.int i) (.int j) H Q := ⟨i, j, rfl, rfl, q⟩
theorem s_lt (q : Q (.bl (decide (i < j))) H) : rLtI (.int i) (.int j) H Q := ⟨i, j, rfl, rfl, q⟩
theorem s_le (q : Q (.bl (decide (i ≤ j))) H) : rLeI (.int i) (.int j) H Q := ⟨i, j, rfl, rfl, q⟩
theorem s_gt (q : Q (.bl (decide (j < i))) H) : rGtI (.int i) (.int j) H Q := ⟨i, j, rfl, rfl, q⟩
theorem s_ge (q : Q (.bl (decide (j ≤ i))) H) : rGeI (.int i) (.int j) H Q := ⟨i, j, rfl, rfl, q⟩
theorem s_neg (q : Q (.int (-i)) H) : rNeg (.int i) H Q := ⟨i, rfl, q⟩
theorem s_inv (q : Q (.int (Builtin.bitNot i)) H) : rInv (.int i) H Q := ⟨i, rfl, q⟩
theorem s_eqI (q : Q (.bl (decide (i = j))) H) : rEq (.int i) (.int j) H Q := ⟨rfl, by
  have e : decide (V.int i = V.int j) = decide (i = j) := by
    rw [dec_int]
    exact Bool.beq_eq_decide_eq i j
  rw [e]
  exact q⟩
theorem s_neI (q : Q (.bl (!decide (i = j))) H) : rNe (.int i) (.int j) H Q := ⟨rfl, by
  have e : decide (V.int i = V.int j) = decide (i = j) := by
    rw [dec_int]
    exact Bool.beq_eq_decide_eq i j
  rw [e]
  exact q⟩
theorem s_isN (q : Q (.bl (decide (x = .non))) H) : rIsNon x .non H Q := ⟨rfl, q⟩
theorem s_notN (q : Q (.bl (!decide (x = .non))) H) : rNotNon x .non H Q := ⟨rfl, q⟩
theorem s_int1 (q : Q (.int i) H) : rInt1 [.int i] H Q := ⟨i, rfl, q⟩
theorem s_abs (q : Q (.int (if i < 0 then -i else i)) H) : rAbs [.int i] H Q := ⟨i, rfl, q⟩
theorem s_min2 (q : Q (.int (if j < i then j else i)) H) : rMin2 [.int i, .int j] H Q := ⟨i, j, rfl, q⟩
theorem s_max2 (q : Q (.int (if j > i then j else i)) H) : rMax2 [.int i, .int j] H Q := ⟨i, j, rfl, q⟩
theorem s_isD {T : String} {d : PyData} (hT : okT T = true) (hd : Rp H d x) (q : Q (.bl (isaD T d)) H) : rIsD [x, .ty T] H Q := ⟨x, T, d, rfl, hT, hd, q⟩
theorem s_lenL {p : Addr} {xs : List V} (h : H p = some (.lst xs)) (q : Q (.int xs.length) H) : rLenF [.ref p] H Q := ⟨p, xs, rfl, .inl h, q⟩
theorem s_lenT {p : Addr} {xs : List V} (h : H p = some (.tup xs)) (q : Q (.int xs.length) H) : rLenF [.ref p] H Q := ⟨p, xs, rfl, .inr h, q⟩
theorem s_ixL {p : Addr} {xs : List V} (h : H p = some (.lst xs)) (e : atI xs i = some v) (q : Q v H) : rIxF (.ref p) (.int i) H Q := ⟨p, xs, i, v, rfl, rfl, .inl h, e, q⟩
theorem s_ixT {p : Addr} {xs : List V} (h : H p = some (.tup xs)) (e : atI xs i = some v) (q : Q v H) : rIxF (.ref p) (.int i) H Q := ⟨p, xs, i, v, rfl, rfl, .inr h, e, q⟩
theorem s_ite {A B : Prop} (h1 : b = true → A) (h2 : b = false → B) : if b = true then A else B := by
  cases b with
  | true => exact iteT (h1 rfl)
  | false => exact iteF (h2 rfl)
theorem s_ited {c A B : Prop} [Decidable c] (h1 : c → A) (h2 : ¬ c → B) : if decide c = true then A else B := by
  by_cases h : c
  · rw [decide_eq_true h]; exact iteT (h1 h)
  · rw [decide_eq_false h]; exact iteF (h2 h)
theorem s_itend {c A B : Prop} [Decidable c] (h1 : ¬ c → A) (h2 : c → B) : if (!decide c) = true then A else B := by
  by_cases h : c
  · rw [decide_eq_true h]; exact iteF (h2 h)
  · rw [decide_eq_false h]; exact iteT (h1 h)
theorem s_iten {A B : Prop} (h1 : b = false → A) (h2 : b = true → B) : if (!b) = true then A else B := by
  cases b with
  | true => exact iteF (h2 rfl)
  | false => exact iteT (h1 rfl)
end
end Un
/-! Own lemmas: masks. -/
namespace Un
open PySem L2 PySem.Spec PyProof.Rows
theorem bor_nat (m n : Nat) : Builtin.bitOr (m : Int) (n : Int) = ((m ||| n : Nat) : Int) := by
  rw [Bits.bitOr_pp (Int.natCast_nonneg _) (Int.natCast_nonneg _), Int.toNat_natCast, Int.toNat_natCast]
theorem band_nat (m n : Nat) : Builtin.bitAnd (m : Int) (n : Int) = ((m &&& n : Nat) : Int) := by
  rw [bitAnd_pp (Int.natCast_nonneg _) (Int.natCast_nonneg _), Int.toNat_natCast, Int.toNat_natCast]
theorem bandnot_nat (m n : Nat) : Builtin.bitAnd (m : Int) (Builtin.bitNot (n : Int)) = ((m - (m &&& n) : Nat) : Int) := by
  have hn : ¬ (0 : Int) ≤ Builtin.bitNot (n : Int) := by
    show ¬ (0 : Int) ≤ -(n : Int) - 1
    omega
  have e : Builtin.bitNot (Builtin.bitNot (n : Int)) = (n : Int) := by
    show -(-(n : Int) - 1) - 1 = n
    omega
  rw [bitAnd_pn (Int.natCast_nonneg _) hn, e, Int.toNat_natCast, Int.toNat_natCast]
  have := @Nat.and_le_left m n
  omega
/-- m's bits are n's -/
def Sub (m n : Nat) : Prop := ∀ i, m.testBit i = true → n.testBit i = true
theorem sub_iff (m n : Nat) : m - (m &&& n) = 0 ↔ Sub m n := by
  have hle := @Nat.and_le_left m n
  constructor
  · intro h i hi
    have e : m &&& n = m := by omega
    have q := Nat.testBit_and m n i
    rw [e, hi] at q
    simp at q
    exact q
  · intro h
    have e : m &&& n = m := by
      apply Nat.eq_of_testBit_eq
      intro i
      rw [Nat.testBit_and]
      cases q : m.testBit i with
      | false => rfl
      | true => rw [h i q]; rfl
    omega
theorem shl_nat (k : Nat) : (1 : Int) * (2 : Int) ^ ((k : Int)).toNat = ((1 <<< k : Nat) : Int) := by
  rw [Int.toNat_natCast, Nat.one_shiftLeft, Int.one_mul, Int.natCast_pow]
  try rfl
theorem bit_nat (m k : Nat) : Builtin.bitAnd ((m : Int) / (2 : Int) ^ ((k : Int)).toNat) 1 = if m.testBit k = true then 1 else 0 := by
  have e : (m : Int) / (2 : Int) ^ ((k : Int)).toNat = ((m / 2 ^ k : Nat) : Int) := by
    rw [Int.toNat_natCast, Int.natCast_ediv, Int.natCast_pow]
    try rfl
  have e1 : (1 : Int) = ((1 : Nat) : Int) := rfl
  rw [e, e1, band_nat, Nat.and_one_is_mod, ← Nat.toNat_testBit]
  cases m.testBit k <;> rfl
theorem mod2_nat (m : Nat) : Builtin.bitAnd (m : Int) 1 = ((m % 2 : Nat) : Int) := by
  have e1 : (1 : Int) = ((1 : Nat) : Int) := rfl
  rw [e1, band_nat, Nat.and_one_is_mod]
/-- the number of a lot -/
def mkFrom (m : Nat) (ns : List Nat) : Nat := ns.foldl (fun m i => m ||| 1 <<< i) m
def mk (ns : List Nat) : Nat := mkFrom 0 ns
theorem bit_mkFrom : ∀ (ns : List Nat) (m i : Nat), (mkFrom m ns).testBit i = (m.testBit i || decide (i ∈ ns))
  | [], m, i => by simp [mkFrom]
  | n :: ns, m, i => by
    show (mkFrom (m ||| 1 <<< n) ns).testBit i = _
    rw [bit_mkFrom ns, Nat.testBit_or, Nat.one_shiftLeft, Nat.testBit_two_pow, Bool.or_assoc]
    congr 1
    rw [Bool.eq_iff_iff]
    simp only [Bool.or_eq_true, decide_eq_true_eq, List.mem_cons]
    constructor
    · rintro (h | h)
      · exact .inl h.symm
      · exact .inr h
    · rintro (h | h)
      · exact .inl h.symm
      · exact .inr h
theorem bit_mk (ns : List Nat) (i : Nat) : (mk ns).testBit i = decide (i ∈ ns) := by
  unfold mk
  rw [bit_mkFrom, Nat.zero_testBit, Bool.false_or]
theorem bit_full (n i : Nat) : (2 ^ n - 1).testBit i = decide (i < n) := Nat.testBit_two_pow_sub_one n i
theorem full_nat (n : Nat) : (1 : Int) * (2 : Int) ^ ((n : Int)).toNat - 1 = ((2 ^ n - 1 : Nat) : Int) := by
  rw [shl_nat, Nat.one_shiftLeft]
  have := Nat.two_pow_pos n
  omega
theorem bit_put (m k i : Nat) : (m ||| 1 <<< k).testBit i = (m.testBit i || decide (i = k)) := by
  rw [Nat.testBit_or, Nat.one_shiftLeft, Nat.testBit_two_pow]
  congr 1
  rw [Bool.eq_iff_iff]
  simp only [decide_eq_true_eq]
  exact ⟨fun h => h.symm, fun h => h.symm⟩
theorem map_toNat {ns : List Int} (h : ∀ n ∈ ns, 0 ≤ n) : ns = (ns.map Int.toNat).map Int.ofNat := by
  rw [List.map_map]
  have : ∀ n ∈ ns, (Int.ofNat ∘ Int.toNat) n = id n := fun n hn => by
    have := h n hn
    show Int.ofNat n.toNat = n
    exact Int.toNat_of_nonneg this
  rw [List.map_congr_left this, List.map_id]
end Un
/-! Comprehensions whose items are reckoned without a change. -/
namespace Un
open PySem L2 PySem.Spec PyProof.Rows
section
variable {K : PySem.W.Frag} {σ : L2.St} {H : Hp} {Q : VK} {te tx : TE} {tt : TT} {g : TG} {vs : List Nat} {a : Addr} {xs : List V}
/-- the items so far -/
def lcOut (c : Nat → Bool) (f : Nat → V) (n : Nat) : List V := ((List.range n).filter c).map f
theorem lcOut_len (c : Nat → Bool) (f : Nat → V) (n : Nat) : (lcOut c f n).length ≤ n := by
  unfold lcOut
  rw [List.length_map]
  exact Nat.le_trans (List.length_filter_le _ _) (by rw [List.length_range]; exact Nat.le_refl _)
theorem lcOut_succ (c : Nat → Bool) (f : Nat → V) (n : Nat) : lcOut c f (n + 1) = if c n = true then lcOut c f n ++ [f n] else lcOut c f n := by
  unfold lcOut
  rw [List.range_succ, List.filter_append]
  by_cases h : c n = true
  · rw [if_pos h]
    simp [h]
  · rw [if_neg h]
    simp [h]
/-- one turn of a comprehension, in a heap where the list so far stands at D -/
def LcTurn (H : Hp) (g : TG) (tt : TT) (tx : TE) (vs : List Nat) (σ : L2.St) (c : Nat → Bool) (f : Nat → V) (i : Nat) (x : V) : Prop :=
  ∀ (H1 : Hp) (P : VK) (N : Hp → Prop), Same H H1 → (c i = true → ∀ H4, Same H1 H4 → P (f i) H4) → (c i = false → ∀ H4, Same H1 H4 → N H4) →
    g x (wipe σ vs) H1 fun σ2 H2 => wipe σ2 vs = wipe σ vs ∧ tt σ2 H2 fun b H3 => if b = true then tx σ2 H3 P else N H3
theorem lc_inv {D : Addr} {H1 H4 : Hp} {c : Nat → Bool} {f : Nat → V} (i : Nat) (hD : H D = none) (e : Same H H1) (hd : H1 D = some (.lst (lcOut c f i))) (e4 : Same H1 H4) (hi : i < 100000) (Pv : Nat → Hp → Prop)
    (hP : ∀ H', Same H H' → H' D = some (.lst (lcOut c f (i + 1))) → Pv (i + 1) H') (hc : c i = true) : ∃ acc, H4 D = some (.lst acc) ∧ acc.length < sizeLine ∧ Pv (i + 1) (upd H4 D (.lst (acc ++ [f i]))) := by
  refine ⟨_, e4 _ _ hd, ?_, hP _ ((e.trans e4).out hD) ?_⟩
  · have := lcOut_len c f i
    rw [sizeLine_eq]
    omega
  · rw [upd_same, lcOut_succ, if_pos hc]
theorem s_lcT (c : Nat → Bool) (f : Nat → V) (ha : H a = some (.tup xs)) (hn : xs.length ≤ 100000) (he : ∀ Q : VK, Q (.ref a) H → te σ H Q) (hx : ∀ i x, xs[i]? = some x → LcTurn H g tt tx vs σ c f i x)
    (k : ∀ p H1, H p = none → Same H H1 → H1 p = some (.lst (lcOut c f xs.length)) → Q (.ref p) H1) : tLc (iTup K te) g tt tx vs σ H Q := by
  show iTup K te σ H _
  refine he _ ⟨a, rfl, ⟨xs, SqT.of ha⟩, fun D hD => ?_⟩
  refine lc_tup (K := K) (a := a) (xs := xs) (fun i H1 => Same H H1 ∧ H1 D = some (.lst (lcOut c f i))) ⟨Same.new hD, upd_same⟩ (fun i H1 _ ⟨e, _⟩ => SqT.of (e _ _ ha)) (fun i x H1 hi ⟨e, hd⟩ => ?_) fun H1 ⟨e, hd⟩ => k D H1 hD e hd
  have hil : i < xs.length := (List.getElem?_eq_some_iff.mp hi).1
  refine hx i x hi H1 _ _ e (fun hc H4 e4 => ?_) fun hc H4 e4 => ?_
  · exact lc_inv i hD e hd e4 (by omega) (fun i H1 => Same H H1 ∧ H1 D = some (.lst (lcOut c f i))) (fun H' a b => ⟨a, b⟩) hc
  · exact ⟨e.trans e4, by rw [lcOut_succ, if_neg (by rw [hc]; decide)]; exact e4 _ _ hd⟩
theorem s_lcL (c : Nat → Bool) (f : Nat → V) (ha : H a = some (.lst xs)) (hn : xs.length ≤ 100000) (he : ∀ Q : VK, Q (.ref a) H → te σ H Q) (hx : ∀ i x, xs[i]? = some x → LcTurn H g tt tx vs σ c f i x)
    (k : ∀ p H1, H p = none → Same H H1 → H1 p = some (.lst (lcOut c f xs.length)) → Q (.ref p) H1) : tLc (iList K te) g tt tx vs σ H Q := by
  show iList K te σ H _
  refine he _ ⟨a, rfl, ⟨xs, SqL.of ha⟩, fun D hD => ?_⟩
  refine lc_list (K := K) (a := a) (xs := xs) (fun i H1 => Same H H1 ∧ H1 D = some (.lst (lcOut c f i))) ⟨Same.new hD, upd_same⟩ (fun i H1 _ ⟨e, _⟩ => SqL.of (e _ _ ha)) (fun i x H1 hi ⟨e, hd⟩ => ?_) fun H1 ⟨e, hd⟩ => k D H1 hD e hd
  have hil : i < xs.length := (List.getElem?_eq_some_iff.mp hi).1
  refine hx i x hi H1 _ _ e (fun hc H4 e4 => ?_) fun hc H4 e4 => ?_
  · exact lc_inv i hD e hd e4 (by omega) (fun i H1 => Same H H1 ∧ H1 D = some (.lst (lcOut c f i))) (fun H' a b => ⟨a, b⟩) hc
  · exact ⟨e.trans e4, by rw [lcOut_succ, if_neg (by rw [hc]; decide)]; exact e4 _ _ hd⟩
theorem s_lcR {ta : TA} (c : Nat → Bool) (f : Nat → V) (n : Nat) (hn : n ≤ 100000) (he : ∀ Q : List V → Hp → Prop, Q [.int n] H → ta σ H Q) (hx : ∀ i, i < n → LcTurn H g tt tx vs σ c f i (.int i))
    (k : ∀ p H1, H p = none → Same H H1 → H1 p = some (.lst (lcOut c f n)) → Q (.ref p) H1) : tLc (iRng1 ta) g tt tx vs σ H Q := by
  show iRng1 ta σ H _
  refine he _ ⟨n, rfl, by omega, by omega, fun D hD => ?_⟩
  have en : ((n : Int)).toNat = n := Int.toNat_natCast n
  rw [en]
  refine lc_range (lo := 0) (n := n) (fun i H1 => Same H H1 ∧ H1 D = some (.lst (lcOut c f i))) ⟨Same.new hD, upd_same⟩ (fun i H1 hi ⟨e, hd⟩ => ?_) fun H1 ⟨e, hd⟩ => k D H1 hD e hd
  have e0 : (0 : Int) + (i : Int) = i := Int.zero_add _
  rw [e0]
  refine hx i hi H1 _ _ e (fun hc H4 e4 => ?_) fun hc H4 e4 => ?_
  · exact lc_inv i hD e hd e4 (by omega) (fun i H1 => Same H H1 ∧ H1 D = some (.lst (lcOut c f i))) (fun H' a b => ⟨a, b⟩) hc
  · exact ⟨e.trans e4, by rw [lcOut_succ, if_neg (by rw [hc]; decide)]; exact e4 _ _ hd⟩
theorem lcOut_all (f : Nat → V) (n : Nat) : lcOut (fun _ => true) f n = (List.range n).map f := by
  unfold lcOut
  rw [List.filter_eq_self.mpr (fun _ _ => rfl)]
theorem map_range {α β : Type} (l : List α) (f : α → β) (d : β) : (List.range l.length).map (fun i => (l[i]?.map f).getD d) = l.map f := by
  apply List.ext_getElem?
  intro i
  rw [List.getElem?_map, List.getElem?_map]
  by_cases h : i < l.length
  · rw [List.getElem?_range h, List.getElem?_eq_getElem h]
    simp [h]
  · rw [List.getElem?_eq_none (by simpa using h), List.getElem?_eq_none (by simpa using h)]
    rfl
/-- a turn without an if -/
theorem LcTurn.yes {c : Nat → Bool} {f : Nat → V} {i : Nat} {x y : V} (hc : c i = true) (hf : f i = y) (h : ∀ (H1 : Hp) (P : VK), Same H H1 → (∀ H4, Same H1 H4 → P y H4) → g x (wipe σ vs) H1 fun σ2 H2 => wipe σ2 vs = wipe σ vs ∧ tx σ2 H2 P) :
    ∀ (H1 : Hp) (P : VK) (N : Hp → Prop), Same H H1 → (c i = true → ∀ H4, Same H1 H4 → P (f i) H4) → (c i = false → ∀ H4, Same H1 H4 → N H4) → g x (wipe σ vs) H1 fun σ2 H2 => wipe σ2 vs = wipe σ vs ∧ tx σ2 H2 P := by
  intro H1 P N e h1 _
  rw [hf] at h1
  exact h H1 P e (h1 hc)
/-- all([p(x) for x in t]), any(..) of a tuple, of a list -/
theorem s_allT {α : Type} (l : List α) (p : α → Bool) (ha : H a = some (.tup xs)) (hl : xs.length = l.length) (hn : xs.length ≤ 100000) (he : ∀ Q : VK, Q (.ref a) H → te σ H Q)
    (hx : ∀ (i : Nat) (x : V) (d : α), xs[i]? = some x → l[i]? = some d → ∀ (H1 : Hp) (P : VK), Same H H1 → (∀ H4, Same H1 H4 → P (.bl (p d)) H4) → g x (wipe σ vs) H1 fun σ2 H2 => wipe σ2 vs = wipe σ vs ∧ tx σ2 H2 P)
    (k : ∀ H1, Same H H1 → Q (.bl (l.all p)) H1) : tLc (iTup K te) g tYes tx vs σ H (fun x H1 => tNil σ H1 fun xs H2 => rAllF (x :: xs) H2 Q) := by
  refine s_lcT (fun _ => true) (fun i => ((l[i]?.map fun d => V.bl (p d)).getD .non)) ha hn he (fun i x hi => ?_) fun q H1 hq e hp => ?_
  · have hil : i < l.length := by rw [← hl]; exact (List.getElem?_eq_some_iff.mp hi).1
    have hd : l[i]? = some l[i] := List.getElem?_eq_getElem hil
    intro H1 P N e h1 _
    have h2 := h1 rfl
    simp only [hd, Option.map_some, Option.getD_some] at h2
    exact hx i x l[i] hi hd H1 P e h2
  · rw [lcOut_all, hl, map_range] at hp
    refine ⟨q, l.map p, rfl, ?_, ?_⟩
    · rw [List.map_map]
      exact hp
    · rw [List.all_map]
      exact k H1 e
theorem s_anyT {α : Type} (l : List α) (p : α → Bool) (ha : H a = some (.tup xs)) (hl : xs.length = l.length) (hn : xs.length ≤ 100000) (he : ∀ Q : VK, Q (.ref a) H → te σ H Q)
    (hx : ∀ (i : Nat) (x : V) (d : α), xs[i]? = some x → l[i]? = some d → ∀ (H1 : Hp) (P : VK), Same H H1 → (∀ H4, Same H1 H4 → P (.bl (p d)) H4) → g x (wipe σ vs) H1 fun σ2 H2 => wipe σ2 vs = wipe σ vs ∧ tx σ2 H2 P)
    (k : ∀ H1, Same H H1 → Q (.bl (l.any p)) H1) : tLc (iTup K te) g tYes tx vs σ H (fun x H1 => tNil σ H1 fun xs H2 => rAnyF (x :: xs) H2 Q) := by
  refine s_lcT (fun _ => true) (fun i => ((l[i]?.map fun d => V.bl (p d)).getD .non)) ha hn he (fun i x hi => ?_) fun q H1 hq e hp => ?_
  · have hil : i < l.length := by rw [← hl]; exact (List.getElem?_eq_some_iff.mp hi).1
    have hd : l[i]? = some l[i] := List.getElem?_eq_getElem hil
    intro H1 P N e h1 _
    have h2 := h1 rfl
    simp only [hd, Option.map_some, Option.getD_some] at h2
    exact hx i x l[i] hi hd H1 P e h2
  · rw [lcOut_all, hl, map_range] at hp
    refine ⟨q, l.map p, rfl, ?_, ?_⟩
    · rw [List.map_map]
      exact hp
    · rw [List.any_map]
      exact k H1 e
theorem s_allL {α : Type} (l : List α) (p : α → Bool) (ha : H a = some (.lst xs)) (hl : xs.length = l.length) (hn : xs.length ≤ 100000) (he : ∀ Q : VK, Q (.ref a) H → te σ H Q)
    (hx : ∀ (i : Nat) (x : V) (d : α), xs[i]? = some x → l[i]? = some d → ∀ (H1 : Hp) (P : VK), Same H H1 → (∀ H4, Same H1 H4 → P (.bl (p d)) H4) → g x (wipe σ vs) H1 fun σ2 H2 => wipe σ2 vs = wipe σ vs ∧ tx σ2 H2 P)
    (k : ∀ H1, Same H H1 → Q (.bl (l.all p)) H1) : tLc (iList K te) g tYes tx vs σ H (fun x H1 => tNil σ H1 fun xs H2 => rAllF (x :: xs) H2 Q) := by
  refine s_lcL (fun _ => true) (fun i => ((l[i]?.map fun d => V.bl (p d)).getD .non)) ha hn he (fun i x hi => ?_) fun q H1 hq e hp => ?_
  · have hil : i < l.length := by rw [← hl]; exact (List.getElem?_eq_some_iff.mp hi).1
    have hd : l[i]? = some l[i] := List.getElem?_eq_getElem hil
    intro H1 P N e h1 _
    have h2 := h1 rfl
    simp only [hd, Option.map_some, Option.getD_some] at h2
    exact hx i x l[i] hi hd H1 P e h2
  · rw [lcOut_all, hl, map_range] at hp
    refine ⟨q, l.map p, rfl, ?_, ?_⟩
    · rw [List.map_map]
      exact hp
    · rw [List.all_map]
      exact k H1 e
theorem s_anyL {α : Type} (l : List α) (p : α → Bool) (ha : H a = some (.lst xs)) (hl : xs.length = l.length) (hn : xs.length ≤ 100000) (he : ∀ Q : VK, Q (.ref a) H → te σ H Q)
    (hx : ∀ (i : Nat) (x : V) (d : α), xs[i]? = some x → l[i]? = some d → ∀ (H1 : Hp) (P : VK), Same H H1 → (∀ H4, Same H1 H4 → P (.bl (p d)) H4) → g x (wipe σ vs) H1 fun σ2 H2 => wipe σ2 vs = wipe σ vs ∧ tx σ2 H2 P)
    (k : ∀ H1, Same H H1 → Q (.bl (l.any p)) H1) : tLc (iList K te) g tYes tx vs σ H (fun x H1 => tNil σ H1 fun xs H2 => rAnyF (x :: xs) H2 Q) := by
  refine s_lcL (fun _ => true) (fun i => ((l[i]?.map fun d => V.bl (p d)).getD .non)) ha hn he (fun i x hi => ?_) fun q H1 hq e hp => ?_
  · have hil : i < l.length := by rw [← hl]; exact (List.getElem?_eq_some_iff.mp hi).1
    have hd : l[i]? = some l[i] := List.getElem?_eq_getElem hil
    intro H1 P N e h1 _
    have h2 := h1 rfl
    simp only [hd, Option.map_some, Option.getD_some] at h2
    exact hx i x l[i] hi hd H1 P e h2
  · rw [lcOut_all, hl, map_range] at hp
    refine ⟨q, l.map p, rfl, ?_, ?_⟩
    · rw [List.map_map]
      exact hp
    · rw [List.any_map]
      exact k H1 e
end
end Un
/-! enumerate(t), t a tuple, in a for. -/
namespace PySem
open Sem (wp)
open AutoSeq1 (wpAny_loadPart')
theorem un_meets_enumerate_newT (l : Addr) (items : Array Value) (n : Nat) (dct : Option Addr) (sl : Array (Option Value)) :
    Meets (Builtin.«enumerate.__new__» ⟨[.type "enumerate", .ref l], []⟩) (fun _ R s => s.heap.get? l = some { cls := .type "tuple", dict := dct, data := .seq items n, slots := sl } ∧
      R (.ok (.ret (.ref (s.heap.push { cls := .type "tuple_iterator", data := .fields #[.ref l, .int 0 0] }).objs.size)))
        { s with heap := (s.heap.push { cls := .type "tuple_iterator", data := .fields #[.ref l, .int 0 0] }).push { cls := .type "enumerate", data := .fields #[.none, .bool false, .ref s.heap.objs.size, rawInt 0, .none, .none] } }) :=
  .of_wp fun prog w A R s h => by
    obtain ⟨hp, g, d, tk, os⟩ := s; obtain ⟨hl, h⟩ := h
    have hsub := sub_enumerate
    have hL : Heap.IsTuple (Shared.heap ⟨hp, g, d, tk, os⟩) l items := ⟨_, hl, rfl, n, rfl⟩
    wp_walk using wpAny_loadPart' hl
    refine wpAny_stack_any fun st => wpAny_pure ?_
    split
    · rename_i c _ _ _ _ _
      cases (c == Value.type "enumerate")
      · wp_walk using wpAny_loadPart' hl, wpAny_pyIter_tuple hL
        exact ⟨_, rfl, h⟩
      · wp_walk using wpAny_loadPart' hl, wpAny_pyIter_tuple hL
        exact ⟨_, rfl, h⟩
    · wp_walk using wpAny_loadPart' hl, wpAny_pyIter_tuple hL
      exact ⟨_, rfl, h⟩
section
variable {prog : Program} {w : World} {A : Around} {E : Value → Shared → Prop} {s : Shared}
theorem un_call_enumerate_tuple {l : Addr} {items : Array Value} {Q : Value → Shared → Prop} (hL : s.heap.IsTuple l items)
    (h : ∀ h', IsEnum h' (s.heap.objs.size + 1) s.heap.objs.size 0 .none → h'.IsTupleIter s.heap.objs.size l 0 → h'.objs.size = s.heap.objs.size + 2 →
      (∀ b o, s.heap.get? b = some o → h'.get? b = some o) → Q (.ref (s.heap.objs.size + 1)) { s with heap := h' }) :
    wpAny (model prog w) A (call (.type "enumerate") [.ref l]) Q E s := by
  obtain ⟨⟨c, dct, dt, sl⟩, hl, hc, n, hd⟩ := hL
  replace hc : c = .type "tuple" := hc
  replace hd : dt = .seq items n := hd
  subst hc hd
  refine callType_new F.called_enumerate (by decide) (F.typeCall_enumerate_1 _) (F.newCall_enumerate_1 _) (fun obj => F.args_object_init_2 obj _) F.entry_enumerate_new
    (un_meets_enumerate_newT l items n dct sl) ⟨hl, ?_⟩
  have hz : (s.heap.push { cls := .type "tuple_iterator", data := .fields #[.ref l, .int 0 0] }).objs.size = s.heap.objs.size + 1 := Heap.size_push ..
  show _ ∧ _
  rw [hz]
  have he : IsEnum ((s.heap.push { cls := .type "tuple_iterator", data := .fields #[.ref l, .int 0 0] }).push
      { cls := .type "enumerate", data := .fields #[.none, .bool false, .ref s.heap.objs.size, rawInt 0, .none, .none] }) (s.heap.objs.size + 1) s.heap.objs.size 0 .none := by
    have := Heap.get?_push_size (s.heap.push { cls := .type "tuple_iterator", data := .fields #[.ref l, .int 0 0] })
      (o := { cls := .type "enumerate", data := .fields #[.none, .bool false, .ref s.heap.objs.size, rawInt 0, .none, .none] }) rfl
    rw [hz] at this; exact this
  refine ⟨⟨_, he, rfl⟩, h _ he ⟨_, Heap.get?_push_of_some _ (Heap.get?_push_size _ rfl), rfl, rfl⟩ (by rw [Heap.size_push, hz]) fun b o x => Heap.get?_push_of_some _ (Heap.get?_push_of_some _ x)⟩
end
end PySem
namespace Un
open PySem L2 PySem.Spec PyProof.Rows
/-- the tuple at a, each item in a new pair -/
def IteT (K : PySem.W.Frag) (a : Addr) : It :=
  ⟨fun i H => ∃ (xs : List V) (x : V), SqT K H a xs ∧ xs[i]? = some x, fun i H v H' => ∃ T x, v = .ref T ∧ H T = none ∧ H' = upd H T (.tup [.int (i : Nat), x]) ∧ ∀ xs, SqT K H a xs → xs[i]? = some x, fun i H => ∃ xs : List V, SqT K H a xs ∧ xs.length = i⟩
theorem turn_enumT {P : Program} {w : World} {K : PySem.W.Frag} {elts : List Expr} {kk : Nat} {tpos : Pos} (a e it : Addr) :
    Turn P w K (.Tuple elts kk tpos) (IteT K a) [e, it] e (fun i h => (∃ old, IsEnum h e it ((i : Nat) : Int) old) ∧ h.IsTupleIter it a i ∧ e ≠ it ∧ a ≠ it ∧ e ≠ a) where
  mem := by simp
  obj := fun i h st b hb => by
    obtain ⟨⟨old, he⟩, ⟨o, ho, hc, hd⟩, _⟩ := st
    have e' : b = e ∨ b = it := by simpa using hb
    rcases e' with z | z
    · rw [z]; exact ⟨_, he, fun v q => nomatch q⟩
    · rw [z]; exact ⟨o, ho, fun v q => by rw [hd] at q; cases q⟩
  keep := fun i h h' st k => let ⟨⟨old, he⟩, hi, hne⟩ := st; ⟨⟨old, k e (by simp) _ he⟩, hi.at fun o q => k it (by simp) o q, hne⟩
  item := by
    intro X hP hw hK hc i pins s σ H E I hf st hg
    subst hP hw hK
    obtain ⟨⟨old, he⟩, hit, hne, hai, hea⟩ := st
    obtain ⟨xs, x, hq, hx⟩ := hg
    obtain ⟨its, rv, p, hz⟩ := I.tuple hq
    obtain ⟨u, hu, ru⟩ := rv.get hx
    have hel : e < s.heap.objs.size := Heap.lt_size he
    have hil : it < s.heap.objs.size := by obtain ⟨_, q, _⟩ := hit; exact Heap.lt_size q
    have hlt : i < its.toArray.size := by
      have := (List.getElem?_eq_some_iff.mp hu).1
      simpa using this
    refine wpAny_pyNext_enum_itemD (Draws.tuple (A := X.A.in1) (I.ok.hd hc) it a hai its.toArray) he ⟨hit, p⟩ hlt hne (by simp [hne, hea]) fun x' h' tk hP' ho hs' hT hsz hk => ?_
    have ex : x' = u := by
      have q : its.toArray[i]? = some x' := hP'
      have q2 : its.toArray[i]? = some u := by simpa using hu
      rw [q2] at q
      exact (Option.some.inj q).symm
    subst ex
    obtain ⟨hit', _⟩ := hs'
    refine ⟨_, rfl, wpAny_letOwnedTupleGo_enum (s := { s with heap := h', toks := tk + 1 }) ho fun h'' he' sb => ?_⟩
    have hT2 : h''.get? s.heap.objs.size = some { cls := .type "tuple", data := .seq #[.int i tk, x'] } := (sb.2 _ (Nat.ne_of_gt hel)).trans hT
    have new : ObjOk X.prog X.w (upd H s.heap.objs.size (.tup [.int (i : Nat), x])) h'' s.heap.objs.size (.tup [.int (i : Nat), x]) :=
      ⟨by show 2 ≤ sizeLine; decide, [.int i tk, x'], .cons ⟨_, rfl⟩ (.cons ru .nil), ⟨_, hT2, rfl, _, rfl⟩⟩
    have I1 : Inv X pins σ (upd H s.heap.objs.size (.tup [.int (i : Nat), x])) { s with heap := h'', toks := tk + 1 } :=
      I.turnedNew (ch := [e, it]) (fun b ob hb q => (sb.2 b (fun z => hb (by simp [z]))).trans (hk b ob (fun z => hb (by simp [z])) (fun z => hb (by simp [z])) q)) hf (Nat.le_refl _) new
    refine ⟨.ref s.heap.objs.size, _, I1, rfl, ⟨_, x, rfl, I.hok.fresh (Nat.le_refl _), rfl, fun ys hy => by rw [I.tuple_inj hy hq]; exact hx⟩, ⟨⟨x', ?_⟩, hit'.at fun o q => (sb.2 it (Ne.symm hne)).trans q, hne, hai, hea⟩, fun b hb => ?_⟩
    · have e1 : ((i + 1 : Nat) : Int) = (i : Int) + 1 := by omega
      rw [e1]; exact he'
    · have hb' : b < s.heap.objs.size := by
        have e' : b = e ∨ b = it := by simpa using hb
        rcases e' with z | z
        · rw [z]; exact hel
        · rw [z]; exact hil
      rw [upd_ne (Nat.ne_of_lt hb')]
      exact (hf b hb).1
  done := by
    intro X hP hw hK hc i pins s σ H E I hf st hg
    subst hP hw hK
    obtain ⟨⟨old, he⟩, hit, hne, hai, hea⟩ := st
    obtain ⟨xs, hq, hx⟩ := hg
    obtain ⟨its, rv, p, hz⟩ := I.tuple hq
    obtain ⟨f0, f1, f2, f3, f4, f5⟩ := hf it (by simp)
    have hl := rv.length
    have hi : i = its.toArray.size := by simp; omega
    subst hi
    exact wpAny_pyNext_enum_endD (Draws.tuple (A := X.A.in1) (I.ok.hd hc) it a hai its.toArray) he ⟨hit, p⟩ fun h' eb => ⟨rfl, I.turned (t' := s.toks) (fun b o hb q => eb b o hb q) f0 f1 f3 f4 f5⟩
  self := fun A i s Q E st h => let ⟨⟨_, he⟩, _⟩ := st; wpAny_pyIter_enum he h
def iEnumT (K : PySem.W.Frag) (ta : TA) : TI := fun σ H R => ta σ H fun vs H1 => ∃ a xs, vs = [.ref a] ∧ SqT K H1 a xs ∧ R (IteT K a) H1
theorem pi_enumT {X : Cx} {e : Expr} {ta : TA} {p pos tpos : Pos} {elts : List Expr} {kk : Nat} (hg : Gl X "enumerate") (hm : X.mg "enumerate" = none) (ha : PA X [e] ta) (hs : starEach [e] X.env = [(false, eval e X.env)] := by rfl) :
    PI X (.Tuple elts kk tpos) (.Call (.Name "enumerate" p) [e] [] pos) (iEnumT X.K ta) := by
  refine ⟨fun pins s σ H R I h => ?_⟩
  refine Call_ (ld_blt I hg hm boot_enumerate (PyProof.Rows.callWith_type1 (thn (ha.run pos pins s σ H _ I h) fun us s1 ⟨vs, H1, I1, r1, q1⟩ => ?_) hs rfl))
  obtain ⟨a, xs, ex, hq, q⟩ := q1
  subst ex
  cases r1 with
  | cons r rr =>
    cases rr
    cases r
    obtain ⟨its, rv, p', hz⟩ := I1.tuple hq
    have hal : a < s1.heap.objs.size := by obtain ⟨_, z, _⟩ := p'; exact Heap.lt_size z
    refine un_call_enumerate_tuple (show s1.heap.IsTuple a its.toArray from p') fun h' he hit hsz hk => wpAny_pyIter_enum he ?_
    have I2 : Inv X pins σ H1 { s1 with heap := h' } := I1.kept (t' := s1.toks) hk
    refine ⟨s1.heap.objs.size + 1, [s1.heap.objs.size + 1, s1.heap.objs.size], _, _, H1, rfl, I2, turn_enumT a (s1.heap.objs.size + 1) s1.heap.objs.size, ⟨⟨.none, he⟩, hit, Nat.succ_ne_self _, Nat.ne_of_lt hal, Nat.ne_of_gt (Nat.lt_succ_of_lt hal)⟩, fun b hb => ?_, q⟩
    have e' : b = s1.heap.objs.size + 1 ∨ b = s1.heap.objs.size := by simpa using hb
    have hle : s1.heap.objs.size ≤ b := by
      rcases e' with z | z
      · rw [z]; exact Nat.le_add_right _ _
      · rw [z]; exact Nat.le_refl _
    exact I1.fpOk hle (I1.hok.fresh hle)
/-- the loop by an invariant: each turn lays a new pair -/
theorem s_forE {K : PySem.W.Frag} {σ : L2.St} {H : Hp} {D : Ends} {t : TS} {te : TE} {g : TG} {a : Addr} {xs : List V} (Pv : Nat → L2.St → Hp → Prop) (ha : H a = some (.tup xs)) (h0 : Pv 0 σ H) (hl : ∀ i σ' H', Pv i σ' H' → H' a = some (.tup xs))
    (hs : ∀ i x σ' H' p, xs[i]? = some x → Pv i σ' H' → H' p = none → g (.ref p) σ' (upd H' p (.tup [.int (i : Nat), x])) fun σ2 H2 => t { D with nx := Pv (i + 1), ct := Pv (i + 1), bk := D.nx } σ2 H2) (hd : ∀ σ' H', Pv xs.length σ' H' → D.nx σ' H')
    (he : ∀ Q : VK, Q (.ref a) H → te σ H Q) : tFor (iEnumT K (tCons te tNil)) g t D σ H := by
  show te σ H _
  refine he _ ?_
  refine ⟨a, xs, rfl, SqT.of ha, fun i m σ H => m = xs.length - i ∧ i ≤ xs.length ∧ Pv i σ H, ⟨xs.length, by simp, Nat.zero_le _, h0⟩, ?_⟩
  rintro i m σ H ⟨rfl, hi, p⟩
  have q : SqT K H a xs := SqT.of (hl i σ H p)
  by_cases hlt : i < xs.length
  · refine .inr ⟨⟨xs, xs[i], q, by simp [hlt]⟩, Pv (i + 1), fun σ' H' p' => ⟨xs.length - (i + 1), by omega, rfl, hlt, p'⟩, fun x H' y => ?_⟩
    obtain ⟨T, x', rfl, hT, rfl, y⟩ := y
    exact hs i x' σ _ T (y xs q) p hT
  · have e : i = xs.length := by omega
    subst e
    exact .inl ⟨⟨xs, q, rfl⟩, hd σ H p⟩
end Un
/-! More own steps: truth of ints, pairs unpacked, lots as data. -/
namespace Un
open PySem L2 PySem.Spec PyProof.Rows
noncomputable def decP (p : Prop) : Bool := @decide p (Classical.propDecidable p)
theorem decP_iff {p : Prop} : decP p = true ↔ p := by
  unfold decP
  exact @decide_eq_true_iff p (Classical.propDecidable p)
theorem decP_true {p : Prop} (h : p) : decP p = true := decP_iff.mpr h
theorem decP_false {p : Prop} (h : ¬ p) : decP p = false := by
  cases e : decP p with
  | false => rfl
  | true => exact absurd (decP_iff.mp e) h
theorem decP_eq {p : Prop} {b : Bool} (h : b = true ↔ p) : b = decP p := by
  cases b with
  | true => exact (decP_true (h.mp rfl)).symm
  | false => exact (decP_false fun q => Bool.false_ne_true (h.mpr q)).symm
theorem decP_congr {p q : Prop} (h : p ↔ q) : decP p = decP q := decP_eq (decP_iff.trans h)
theorem decP_dec {p : Prop} [Decidable p] : decP p = decide p := (decP_eq decide_eq_true_iff).symm

section
variable {X : Cx} {e : Expr} {te : TE}
/-- an int's truth as a test -/
theorem pt_truI (ha : PE X e te) (he : ∀ whole, isTrue e X.env whole = (do let v ← whole; standAt e.pos; holding [v] (truthy v))) : PT X e (tTruI te) := by
  refine ⟨fun pins s σ H Q I h => ?_⟩
  refine isTrue_plain (thn (ha.run pins s σ H _ I h) fun v s1 ⟨x, H1, I1, r1, q1⟩ => ?_) (he _)
  obtain ⟨i, rfl, q⟩ := q1
  obtain ⟨t, rfl⟩ := r1
  exact PySem.P.truthy_int ⟨H1, I1, q⟩
/-- a call C(..) in a try -/
def tMakeS (C : Addr) (sp : Sp) (E : L2.St → XK) (t : TA) : TE := fun σ H Q => t σ H fun vs H1 => ∀ x dx, H1 x = none → H1 dx = none → dx ≠ x →
  sp (.ref x :: vs) (upd (upd H1 dx (.own x)) x (.ins C dx [])) (fun y H2 => y = .non ∧ Q (.ref x) H2) (E σ)
end
section
variable {K : PySem.W.Frag} {σ : L2.St} {H : Hp} {Q : VK} {te ta tb : TE} {i j : Int} {v x y : V} {n : Nat} {QB : Bool → Hp → Prop} {QS : L2.St → Hp → Prop} {a : Addr} {g1 g2 : TG}
theorem s_truI (h : te σ H fun x H1 => ∃ i, x = .int i ∧ QB (i != 0) H1) : tTruI te σ H QB := h
theorem s_ki {P : Int → Prop} (h : P i) : ∃ k, V.int i = .int k ∧ P k := ⟨i, rfl, h⟩
theorem g_name (q : QS (σ.set n (some v)) H) : gName n v σ H QS := q
theorem g_tup {t : TGs} {xs : List V} (h : H a = some (.tup xs)) (hl : xs.length = n) (q : t xs σ H QS) : gTup K n t (.ref a) σ H QS := ⟨a, xs, rfl, SqT.of h, hl, q⟩
theorem g_cons {t : TG} {u : TGs} {r : List V} (q : t v σ H fun σ' H' => u r σ' H' QS) : gCons t u (v :: r) σ H QS := ⟨v, r, rfl, q⟩
theorem g_nil (q : QS σ H) : gNil [] σ H QS := ⟨rfl, q⟩
theorem s_fld {f : Str} (h : te σ H fun x H1 => ∃ a C dx fs v, x = .ref a ∧ H1 a = some (.ins C dx fs) ∧ Cls K C ∧ NoAttr K C f ∧ fs.lookup f = some v ∧ Q v H1) : tFld K te f σ H Q := h
end
theorem s_sfld {K : PySem.W.Frag} {f : Str} {ta tv : TE} {D : Ends} {σ : L2.St} {H : Hp} (h : tv σ H fun y H1 => ta σ H1 fun x H2 => ∃ a C dx fs, x = .ref a ∧ H2 a = some (.ins C dx fs) ∧ Cls K C ∧ NoAttr K C f ∧ fs.length < 1000 ∧ D.nx σ (upd H2 a (.ins C dx (putF f y fs)))) : sFld K ta tv f D σ H := h
/-! ### numbers of a lot, as values and as data -/
def vN (ns : List Nat) : List V := ns.map fun n : Nat => V.int (n : Int)
def dN (ns : List Nat) : List PyData := ns.map fun n : Nat => PyData.int (n : Int)
def lotD (ns : List Nat) : PyData := .tuple (dN ns)
theorem rpAll_dN {H : Hp} {ns : List Nat} {xs : List V} : RpAll H (dN ns) xs ↔ xs = vN ns := by
  have h1 : dN ns = (ns.map fun n : Nat => (n : Int)).map PyData.int := by
    unfold dN
    rw [List.map_map]
    rfl
  have h2 : vN ns = (ns.map fun n : Nat => (n : Int)).map V.int := by
    unfold vN
    rw [List.map_map]
    rfl
  rw [h1, h2]
  exact rpAll_ints
theorem rp_lot {H : Hp} {ns : List Nat} {v : V} : Rp H (lotD ns) v ↔ ∃ a, v = .ref a ∧ H a = some (.tup (vN ns)) := by
  unfold lotD
  rw [rp_tup]
  constructor
  · rintro ⟨a, xs, rfl, h1, h2⟩
    rw [rpAll_dN.mp h2] at h1
    exact ⟨a, rfl, h1⟩
  · rintro ⟨a, rfl, h1⟩
    exact ⟨a, _, rfl, h1, rpAll_dN.mpr rfl⟩
theorem vN_flat (ns : List Nat) : (vN ns).all flatV = true := by
  unfold vN
  rw [List.all_map, List.all_eq_true]
  intro x _
  rfl
theorem inV_nat (k : Nat) (ns : List Nat) : inV (.int k) (vN ns) = decide (k ∈ ns) := by
  unfold inV vN
  rw [List.any_map, Bool.eq_iff_iff, List.any_eq_true, decide_eq_true_eq]
  constructor
  · rintro ⟨n, h1, h2⟩
    have h3 : ((n : Int) == (k : Int)) = true := h2
    have h4 : (n : Int) = (k : Int) := by simpa using h3
    have : n = k := by omega
    rw [← this]
    exact h1
  · intro h
    exact ⟨k, h, by show ((k : Int) == (k : Int)) = true; simp⟩
theorem s_inT {neg : Bool} {H : Hp} {Q : VK} {a : Addr} {ns : List Nat} {k : Nat} (h : H a = some (.tup (vN ns))) (q : Q (.bl (if neg then !decide (k ∈ ns) else decide (k ∈ ns))) H) : rInF neg (.int (k : Int)) (.ref a) H Q :=
  ⟨a, _, rfl, .inr h, rfl, vN_flat ns, by rw [inV_nat]; exact q⟩
theorem s_inL {neg : Bool} {H : Hp} {Q : VK} {a : Addr} {ns : List Nat} {k : Nat} (h : H a = some (.lst (vN ns))) (q : Q (.bl (if neg then !decide (k ∈ ns) else decide (k ∈ ns))) H) : rInF neg (.int (k : Int)) (.ref a) H Q :=
  ⟨a, _, rfl, .inl h, rfl, vN_flat ns, by rw [inV_nat]; exact q⟩
/-- a lot below m -/
def LotN (m : Int) (ns : List Nat) : Prop := ns.Pairwise (· < ·) ∧ ∀ n ∈ ns, (n : Int) < m
/-- while flag: .. -/
theorem s_whileV {n : Nat} {σ : L2.St} {H : Hp} {D : Ends} {tb : TS} (Pv : L2.St → Hp → Prop) (μ : L2.St → Hp → Nat) (h0 : Pv σ H)
    (hs : ∀ σ H, Pv σ H → ∃ b, σ[n]? = some (some (.bl b)) ∧ (b = true → tb { D with nx := fun σ' H' => Pv σ' H' ∧ μ σ' H' < μ σ H, ct := fun σ' H' => Pv σ' H' ∧ μ σ' H' < μ σ H, bk := D.nx } σ H) ∧ (b = false → D.nx σ H)) :
    tWhile (tB (tVar n)) tb D σ H := by
  refine while_by Pv μ h0 (fun σ H p => ?_) fun σ H Q Q' hq ⟨v, h1, c, h2, h3⟩ => ⟨v, h1, c, h2, hq _ _ h3⟩
  obtain ⟨b, h1, h2, h3⟩ := hs σ H p
  refine ⟨_, h1, b, rfl, ?_⟩
  cases b with
  | true => exact iteT (h2 rfl)
  | false => exact iteF (h3 rfl)
theorem countP_lt {α : Type} {p q : α → Bool} : ∀ {l : List α}, (∀ x ∈ l, q x = true → p x = true) → (∃ x ∈ l, p x = true ∧ q x = false) → l.countP q < l.countP p
  | [], _, h => by obtain ⟨x, h, _⟩ := h; cases h
  | a :: l, h, he => by
    rw [List.countP_cons, List.countP_cons]
    have hle : l.countP q ≤ l.countP p := List.countP_mono_left fun x hx => h x (List.mem_cons_of_mem _ hx)
    obtain ⟨x, hx, h1, h2⟩ := he
    rcases List.mem_cons.mp hx with rfl | hx
    · rw [if_pos h1, if_neg (by rw [h2]; decide)]
      omega
    · have := countP_lt (fun x hx => h x (List.mem_cons_of_mem _ hx)) ⟨x, hx, h1, h2⟩
      have ha := h a (List.mem_cons_self ..)
      by_cases e : q a = true
      · rw [if_pos e, if_pos (ha e)]
        omega
      · rw [if_neg e]
        split <;> omega
/-- for i in range(n) -/
theorem s_forR {σ : L2.St} {H : Hp} {D : Ends} {t : TS} {ta : TA} {g : TG} (n : Nat) (Pv : Nat → L2.St → Hp → Prop) (hn : n ≤ 1000000) (h0 : Pv 0 σ H)
    (hs : ∀ i σ' H', i < n → Pv i σ' H' → g (.int (i : Nat)) σ' H' fun σ2 H2 => t { D with nx := Pv (i + 1), ct := Pv (i + 1), bk := D.nx } σ2 H2) (hd : ∀ σ' H', Pv n σ' H' → D.nx σ' H')
    (he : ∀ Q : List V → Hp → Prop, Q [.int n] H → ta σ H Q) : tFor (iRng1 ta) g t D σ H := by
  refine he _ ?_
  refine ⟨(n : Int), rfl, by omega, by omega, ?_⟩
  rw [Int.toNat_natCast]
  refine for_range (lo := 0) (n := n) Pv h0 (fun i σ' H' hi p => ?_) hd
  rw [Int.zero_add]
  exact hs i σ' H' hi p
/-- for x in a list -/
theorem s_forL {K : PySem.W.Frag} {σ : L2.St} {H : Hp} {D : Ends} {t : TS} {te : TE} {g : TG} {a : Addr} {xs : List V} (Pv : Nat → L2.St → Hp → Prop) (ha : H a = some (.lst xs)) (h0 : Pv 0 σ H) (hl : ∀ i σ' H', Pv i σ' H' → H' a = some (.lst xs))
    (hs : ∀ i x σ' H', xs[i]? = some x → Pv i σ' H' → g x σ' H' fun σ2 H2 => t { D with nx := Pv (i + 1), ct := Pv (i + 1), bk := D.nx } σ2 H2) (hd : ∀ σ' H', Pv xs.length σ' H' → D.nx σ' H')
    (he : ∀ Q : VK, Q (.ref a) H → te σ H Q) : tFor (iList K te) g t D σ H := by
  refine he _ ?_
  exact ⟨a, rfl, ⟨xs, SqL.of ha⟩, for_list (K := K) (a := a) (xs := xs) Pv h0 (fun i σ' H' _ p => SqL.of (hl i σ' H' p)) hs hd⟩
theorem s_tyL {K : PySem.W.Frag} {H : Hp} {a : Addr} {xs : List V} {P : Prop} (h : H a = some (.lst xs)) (q : P) : tyV K "list" (.ref a) H ∧ P := ⟨.inl ⟨rfl, xs, SqL.of h⟩, q⟩
theorem s_app {H : Hp} {Q : VK} {a : Addr} {xs : List V} {y : V} (h : H a = some (.lst xs)) (hl : xs.length < 100000) (q : Q .non (upd H a (.lst (xs ++ [y])))) : rAppend (.ref a) [y] H Q :=
  ⟨a, xs, y, rfl, rfl, h, by rw [sizeLine_eq]; omega, q⟩
theorem s_bm {K : PySem.W.Frag} {T : String} {r : V → List V → Hp → VK → Prop} {to : TE} {t : TA} {σ : L2.St} {H : Hp} {Q : VK} (h : to σ H fun x H1 => tyV K T x H1 ∧ t σ H1 fun xs H2 => r x xs H2 Q) : tBM K T r to t σ H Q := h
end Un
/-! Rules for tuples that the hand layer lacks: sorted(t), t.index(k), t[::-1], t * k of any k. -/
namespace PySem.UnT
open PySem PySem.Spec PyProof.Rows L2 HT SrtO
section
variable {prog : Program} {w : World} {A : Around} {E : Value → Shared → Prop} {s : Shared}
theorem collect_tup {l : Addr} {vs : List Value} {Q : List Value → Shared → Prop} (hl : IsTup s.heap l vs.toArray)
    (h : Q vs { s with heap := (s.heap.push (seqObj "list" #[] 0)).update s.heap.objs.size (Obj.mapSeq (· ++ vs.toArray)) }) (hsz : vs.length ≤ sizeLine) :
    wpAny (model prog w) A (collect (.ref l)) Q E s := by
  obtain ⟨o, ho, hc, n, hd⟩ := id hl
  unfold collect
  refine wpAny_bind (wpAny_runValue (codeAny_builtin entry_proto_collect' ?_))
  show wpAny _ _ (do again (.builtin "list.__iadd__" ⟨[← newList [], .ref l], []⟩)) _ _ s
  refine wpAny_bind (wpAny_newList (wpAny_pure ⟨Code.quiet_builtin _ (by decide +kernel), codeAny_builtin entry_list_iadd' ?_⟩))
  show wpAny _ _ (Builtin.List.listExtendWith (.ref s.heap.objs.size) (.ref l) (.ref s.heap.objs.size)) _ _ { s with heap := s.heap.push (seqObj "list" #[] 0) }
  unfold Builtin.List.listExtendWith
  have ho' : (s.heap.push (seqObj "list" #[] 0)).get? l = some o := Heap.get?_push_of_some _ ho
  refine wpAny_bind (wpAny_typeOf (T := "tuple") ⟨o, ho', hc⟩ ?_)
  have ht : (Value.type "tuple" == Value.type "tuple") = true := by rfl
  rw [if_pos (by rw [ht]; simp)]
  refine wpAny_bind (listItems_at ho' hd ?_)
  refine wpAny_bind (listItems_at (xs := #[]) (n := 0) (Heap.get?_push_size _ rfl) rfl ?_)
  rw [if_neg (by simp)]
  refine wpAny_bind (listUpdate_at (xs := #[]) (n := 0) (Heap.get?_push_size _ rfl) rfl ?_ (Nat.zero_le _) (by show (#[] ++ vs.toArray).size ≤ sizeLine + 1; simp only [Array.size_append, List.size_toArray, List.length_nil]; omega))
  refine wpAny_pure ?_
  show wpAny (model prog w) A (do
      let o ← load s.heap.objs.size
      match o.data with
      | .seq xs _ => pure xs.toList
      | _ => unsupported "internal:collect") Q E { s with heap := (s.heap.push (seqObj "list" #[] 0)).update s.heap.objs.size (Obj.mapSeq (· ++ vs.toArray)) }
  refine wpAny_bind (wpAny_load (get?_update_seq (Heap.get?_push_size _ rfl) _) ?_)
  show wpAny _ _ (pure ((#[] : Array Value) ++ vs.toArray).toList) Q E _
  rw [show ((#[] : Array Value) ++ vs.toArray).toList = vs by simp]
  exact wpAny_pure h
theorem sorted_tup {l : Addr} {vs : List Value} {ltv : Value → Value → Bool} {Q : Value → Shared → Prop} (O : Swo ltv) (hl : IsTup s.heap l vs.toArray) (hz : vs.length ≤ sizeLine)
    (hS : 2 ≤ vs.length → ∀ (h₁ : Heap) (a : Addr), h₁.get? a = some (seqObj "list" vs.toArray 0) → (∀ b o, s.heap.get? b = some o → b ≠ a ∧ h₁.get? b = some o) → SortableO prog w A.in1.in1 { s with heap := h₁ } a vs ltv)
    (h : ∀ out : List Value, Srtd ltv out → Stb ltv out vs → Q (.ref (s.heap.objs.size + 1)) { s with heap := sortedAll s.heap vs out.toArray }) :
    wpAny (model prog w) A (call (.builtin "sorted") [.ref l]) Q E s := by
  refine Calls.call_function_entry kind_sorted plain_sorted entry_sorted (args_sorted1 _) ?_
  unfold Builtin.«sorted»
  refine wpAny_bind (m := checkCount "sorted" 1 1 _) (wpAny_pure ?_)
  refine wpAny_bind (collect_tup hl ?_ hz)
  refine wpAny_bind (wpAny_newList ?_ hz)
  have hsz : ((s.heap.push (seqObj "list" #[] 0)).update s.heap.objs.size (Obj.mapSeq (· ++ vs.toArray))).objs.size = s.heap.objs.size + 1 := by
    rw [Heap.size_update, size_push']
  have hoL : (((s.heap.push (seqObj "list" #[] 0)).update s.heap.objs.size (Obj.mapSeq (· ++ vs.toArray))).push (seqObj "list" vs.toArray 0)).get? (s.heap.objs.size + 1) = some (seqObj "list" vs.toArray 0) := by
    rw [← hsz]; exact Heap.get?_push_size _ rfl
  have keep : ∀ b o, s.heap.get? b = some o → b ≠ s.heap.objs.size + 1 ∧ (((s.heap.push (seqObj "list" #[] 0)).update s.heap.objs.size (Obj.mapSeq (· ++ vs.toArray))).push (seqObj "list" vs.toArray 0)).get? b = some o := fun b o q => by
    have hlt : b < s.heap.objs.size := Heap.lt_size q
    refine ⟨Nat.ne_of_lt (Nat.lt_succ_of_lt hlt), Heap.get?_push_of_some _ ?_⟩
    rw [Heap.get?_update_ne _ _ _ _ (Nat.ne_of_lt hlt)]
    exact Heap.get?_push_of_some _ q
  show wpAny _ _ _ _ _ { s with heap := ((s.heap.push (seqObj "list" #[] 0)).update s.heap.objs.size (Obj.mapSeq (· ++ vs.toArray))).push (seqObj "list" vs.toArray 0) }
  rw [hsz]
  refine wpAny_bind (wpAny_holding (wpAny_call_entry slot_list_sort ⟨_, hoL, rfl⟩ entry_list_sort (list_sort_ord O hoL hz (fun h2 => hS h2 _ _ hoL keep) fun out hs hb => ⟨_, rfl, ?_⟩) (args_list_sort _)))
  exact wpAny_pure ⟨_, rfl, h out hs hb⟩
/-! ### t[::-1] -/
theorem adjust_rev (n : Nat) : Builtin.Slice.sliceAdjust none none (-1) (n : Int) = ((n : Int) - 1, -1) := rfl
theorem places_rev (n : Nat) : Builtin.Slice.slicePlaces ((n : Int) - 1) (-1) (-1) = n := by
  unfold Builtin.Slice.slicePlaces
  rw [if_neg (by decide)]
  by_cases h : (n : Int) - 1 > -1
  · rw [if_pos h]
    have e : ((n : Int) - 1 - -1 - 1) / (- -1) = (n : Int) - 1 := by
      rw [show (- -1 : Int) = 1 by decide, Int.ediv_one]
      omega
    rw [e]
    omega
  · rw [if_neg h]
    have : n = 0 := by omega
    subst this
    rfl
theorem sliceApplied_rev {sl : Addr} {u : Tok} {n : Nat} {Q : Int × Int × Nat → Shared → Prop} (hs : s.heap.IsSliceOf sl .none .none (.int (-1) u))
    (h : Q ((n : Int) - 1, -1, n) s) : wpAny (model prog w) A (Builtin.Slice.sliceApplied (.ref sl) (pure (n : Int))) Q E s := by
  obtain ⟨os, hos, hcs, hds⟩ := id hs
  unfold Builtin.Slice.sliceApplied Builtin.Slice.sliceFields
  refine wpAny_bind (wpAny_bind (wpAny_field hos hds (x := .none) rfl (wpAny_bind (wpAny_field hos hds (x := .none) rfl (wpAny_bind (wpAny_field hos hds (x := .int (-1) u) rfl (wpAny_pure ?_)))))))
  refine wpAny_bind (slicePart_int ?_)
  show wpAny _ _ (if ((-1 : Int) == 0) = true then _ else _) _ _ s
  rw [if_neg (by decide)]
  refine wpAny_bind (slicePart_none (wpAny_bind (slicePart_none (wpAny_bind (wpAny_pure ?_)))))
  show wpAny _ _ (match Builtin.Slice.sliceAdjust none none (-1) (n : Int) with | (lo, hi) => pure (lo, (-1 : Int), Builtin.Slice.slicePlaces lo hi (-1))) _ _ s
  rw [adjust_rev n]
  show wpAny _ _ (pure ((n : Int) - 1, (-1 : Int), Builtin.Slice.slicePlaces ((n : Int) - 1) (-1) (-1))) _ _ s
  rw [places_rev]
  exact wpAny_pure h
theorem pick_rev (xs : Array Value) : ((List.range xs.size).filterMap fun (k : Nat) => xs[((xs.size : Int) - 1 + (k : Int) * (-1)).toNat]?).toArray = xs.toList.reverse.toArray := by
  have h := PySem.W.krv_pick xs
  unfold slicePick at h
  rw [PySem.W.krv_bounds] at h
  rw [← h]
  show _ = ((sliceRange ((xs.size : Int) - 1) (-1) (-1)).filterMap (xs[·]?)).toArray
  rw [PySem.W.krv_sliceRange, List.filterMap_map]
  have e : ∀ (m : Nat), m ≤ xs.size → ((List.range m).filterMap fun (k : Nat) => xs[((xs.size : Int) - 1 + (k : Int) * (-1)).toNat]?) = (List.range m).filterMap ((fun x => xs[x]?) ∘ fun k => xs.size - 1 - k) := by
    intro m
    induction m with
    | zero => intro _; rfl
    | succ m ih =>
      intro hm
      rw [List.range_succ, List.filterMap_append, List.filterMap_append, ih (by omega)]
      have e1 : ((xs.size : Int) - 1 + (m : Int) * (-1)).toNat = xs.size - 1 - m := by omega
      congr 1
      simp only [List.filterMap_cons, List.filterMap_nil, Function.comp, e1]
  exact congrArg List.toArray (e xs.size (Nat.le_refl _))
theorem getItem_tuple_rev {t sl : Addr} {items : Array Value} {u : Tok} {Q : Value → Shared → Prop} (ht : IsTup s.heap t items) (hs : s.heap.IsSliceOf sl .none .none (.int (-1) u))
    (h : Q (.ref s.heap.objs.size) { s with heap := s.heap.push { cls := .type "tuple", data := .seq items.toList.reverse.toArray } })
    (hsz : items.size ≤ sizeLine) : wpAny (model prog w) A (getItem (.ref t) (.ref sl)) Q E s := by
  have htake : sizeOk (.seq items.toList.reverse.toArray) := by
    show items.toList.reverse.toArray.size ≤ sizeLine
    rw [List.size_toArray, List.length_reverse, Array.length_toList]
    exact hsz
  obtain ⟨os, hos, hcs, hds⟩ := id hs
  have hTs : s.TypeIs (.ref sl) "slice" := ⟨os, hos, hcs⟩
  unfold getItem
  try with_reducible refine wpAny_holding ?_
  first | refine wpAny_bind (wpAny_pure ?_) | skip
  refine wpAny_bind (wpAny_sequenceKey ht.typeIs (by decide) ?_)
  refine wpAny_bind (wpAny_callSpecial?_slot (name := Str.ofString "__getitem__") ht.typeIs PyProof.Rows.slot_tuple_getitem
    (wpAny_call_entry PyProof.Rows.slot_tuple_getitem ht.typeIs entry_tuple_getitem ?_ (args_tuple_getitem _ _)))
  show wpAny _ _ (Builtin.Tuple.tupleItemsOf (.ref t) >>= _) _ _ s
  refine wpAny_bind (tupleItemsOf_ ht ?_)
  refine wpAny_bind (wpAny_typeOf hTs ?_)
  rw [if_pos (by decide)]
  refine wpAny_bind (sliceApplied_rev hs ?_)
  have hno : ¬ ((((items.size : Int) - 1) == 0 && (-1 : Int) == 1 && items.size == items.size) = true) := by
    intro q
    rw [Bool.and_eq_true, Bool.and_eq_true] at q
    exact absurd q.1.2 (by decide)
  show wpAny _ _ (if (((items.size : Int) - 1) == 0 && (-1 : Int) == 1 && items.size == items.size) = true then _ else _) _ _ s
  rw [if_neg hno, pick_rev]
  first
    | exact wpAny_bind (m := Builtin.Tuple.tupleExact _) (wpAny_newObj_type (wpAny_pure ⟨_, rfl, wpAny_pure h⟩) htake)
    | exact wpAny_bind (m := Builtin.Tuple.tupleExact _) (wpAny_newObj_type (wpAny_bind (wpAny_pure (wpAny_pure ⟨_, rfl, wpAny_pure h⟩))) htake)
    | exact wpAny_bind (wpAny_bind (m := Builtin.Tuple.tupleExact _) (wpAny_newObj_type (wpAny_pure (wpAny_pure ⟨_, rfl, wpAny_pure h⟩)) htake))
    | exact wpAny_bind (wpAny_bind (m := Builtin.Tuple.tupleExact _) (wpAny_newObj_type (wpAny_pure ⟨_, rfl, wpAny_pure h⟩) htake))
end
/-! ### t * k, k of 1, 0 or below -/
theorem tuple_mul1 (l : Addr) (items : Array Value) (n : Nat) (dd : Option Addr) (sl : Array (Option Value)) (u : Tok) :
    Meets (Builtin.«tuple.__mul__» ⟨[.ref l, .int 1 u], []⟩) (fun _ R s => s.heap.get? l = some { cls := .type "tuple", dict := dd, data := .seq items n, slots := sl } ∧ R (.ok (.ret (Value.ref l))) s) :=
  .of_wp fun prog w A R s h => by
    obtain ⟨hp, g, d, tk, os⟩ := s
    obtain ⟨hl, h⟩ := h
    have f1 := AutoSeq1.idx_int
    have c0 : (decide ((1 : Int) < -(2 ^ 63)) || decide ((1 : Int) ≥ 2 ^ 63)) = false := by decide
    have c1 : (items.isEmpty || (1 : Int) == 1) = true := by rw [show ((1 : Int) == 1) = true from rfl, Bool.or_true]
    wp_walk using wpAny_loadPart' hl
    repeat (first
      | (refine wpAny_ite_false (decide_eq_false (by rw [c0]; exact Bool.false_ne_true)) ?_; wp_walk using wpAny_loadPart' hl)
      | (refine wpAny_ite_true (decide_eq_true (by rw [c1])) ?_; wp_walk using wpAny_loadPart' hl))
    exact ⟨_, rfl, h⟩
theorem tuple_mul0 (l : Addr) (items : Array Value) (n : Nat) (dd : Option Addr) (sl : Array (Option Value)) (x : Int) (u : Tok) (c0 : (decide (x < -(2 ^ 63)) || decide (x ≥ 2 ^ 63)) = false) (c1 : (items.isEmpty || x == 1) = false) (c2 : (decide (x ≤ 0) || items.isEmpty) = true) :
    Meets (Builtin.«tuple.__mul__» ⟨[.ref l, .int x u], []⟩) (fun _ R s => s.heap.get? l = some { cls := .type "tuple", dict := dd, data := .seq items n, slots := sl } ∧
      R (.ok (.ret (Value.ref s.heap.objs.size))) { s with heap := s.heap.push { cls := Value.type "tuple", data := Data.seq #[] }, toks := s.toks }) :=
  .of_wp fun prog w A R s h => by
    obtain ⟨hp, g, d, tk, os⟩ := s
    obtain ⟨hl, h⟩ := h
    have f1 := AutoSeq1.idx_int
    wp_walk using wpAny_loadPart' hl
    repeat (first
      | (refine wpAny_ite_false (decide_eq_false (by rw [c0]; exact Bool.false_ne_true)) ?_; wp_walk using wpAny_loadPart' hl)
      | (refine wpAny_ite_false (decide_eq_false (by rw [c1]; exact Bool.false_ne_true)) ?_; wp_walk using wpAny_loadPart' hl)
      | (refine wpAny_ite_true (decide_eq_true (by rw [c2])) ?_; wp_walk using wpAny_loadPart' hl))
    exact ⟨_, rfl, h⟩
end PySem.UnT
namespace Un
open PySem L2 PySem.Spec PyProof.Rows
section
variable {X : Cx}
/-- sorted(t), ints -/
def rSortedTP : List V → Hp → VK → Prop := fun vs H Q => ∃ (a : Addr) (ns : List Int), vs = [V.ref a] ∧ H a = some (.tup (ns.map V.int)) ∧
  ∀ (ns' : List Int) (p : Addr), ns'.Perm ns → ns'.Pairwise (· ≤ ·) → H p = none → Q (.ref p) (upd H p (.lst (ns'.map V.int)))
theorem u_sortedT : CallR X (.builtin "sorted") rSortedTP := by
  intro pins s σ H vs us Q I r h
  obtain ⟨a, ns, rfl, hs, q⟩ := h
  obtain ⟨its, rv, hl, hz⟩ := I.tuple (SqT.of hs)
  rw [Vals.ref1 r]
  have hi := rv.ints
  refine PySem.UnT.sorted_tup SrtO.swo_int hl (by rw [← rv.length]; exact hz) (fun h2 h₁ a' _ _ => SrtO.ints_sortable hi h2) fun out h1 h2 => ?_
  obtain ⟨k1, k2, k3⟩ := SrtO.ints_out hi h1 h2
  obtain ⟨ep, he'⟩ := PyProof.Rows.sortedAll_at s.heap its out.toArray
  have hlen : ((out.map SrtO.iv).map V.int).length ≤ sizeLine := by
    rw [List.length_map, k2.length_eq]
    rw [List.length_map] at hz
    exact hz
  exact ⟨.ref _, upd H (s.heap.objs.size + 1) (.lst ((out.map SrtO.iv).map V.int)), I.laid (t' := s.toks) (fun _ _ => PyProof.Rows.sortedAll_old) (Nat.le_succ _) ⟨hlen, out, ep, vals_of_ints k1, he'⟩, rfl, q _ _ k2 k3 (I.hok.fresh (Nat.le_succ _))⟩
/-- sorted(xs), ints -/
def rSortedLP : List V → Hp → VK → Prop := fun vs H Q => ∃ (a : Addr) (ns : List Int), vs = [V.ref a] ∧ H a = some (.lst (ns.map V.int)) ∧
  ∀ (ns' : List Int) (p : Addr), ns'.Perm ns → ns'.Pairwise (· ≤ ·) → H p = none → Q (.ref p) (upd H p (.lst (ns'.map V.int)))
theorem u_sorted : CallR X (.builtin "sorted") rSortedLP := L2.CallR.imp cr_sortedI fun xs H Q h => by
  obtain ⟨a, ns, rfl, hp, q⟩ := h
  exact ⟨a, ns, rfl, SqL.of hp, q⟩
/-- t.index(k), ints, there -/
def rIndexT : V → List V → Hp → VK → Prop := fun x xs H Q => ∃ (a : Addr) (ns : List Int) (k : Int), x = V.ref a ∧ xs = [.int k] ∧ H a = some (.tup (ns.map V.int)) ∧ k ∈ ns ∧ Q (.int (ns.idxOf k : Nat)) H
theorem mt_indexT : MtR X "tuple.index" rIndexT := by
  intro pins s σ H x xs v us Q I rx rxs h
  obtain ⟨a, ns, k, rfl, rfl, hs, hk, q⟩ := h
  cases rx
  obtain ⟨u, rfl, ru⟩ := rxs.one
  obtain ⟨t, rfl⟩ := ru
  obtain ⟨its, rv, hl, hz⟩ := I.tuple (SqT.of hs)
  exact PySem.SeqAt.tuple_index_ints (show s.heap.IsTuple a its.toArray from hl) rv.ints hk ⟨.int (ns.idxOf k : Nat), H, I.tok _, ⟨_, rfl⟩, q⟩
/-- t[::-1] -/
def tRevT (te : TE) : TE := fun σ H Q => te σ H fun x H1 => ∃ a xs, x = .ref a ∧ H1 a = some (.tup xs) ∧ ∀ p, H1 p = none → Q (.ref p) (upd H1 p (.tup xs.reverse))
theorem pe_revT {e : Expr} {te : TE} {k : Nat} {p1 p2 p3 pos : Pos} (he : PE X e te) : PE X (.Subscript e (.Slice none none (some (.UnaryOp .USub (.Constant (.int 1) k p1) p2)) p3) pos) (tRevT te) := by
  refine ⟨fun pins s σ H Q I h => ?_⟩
  refine Subscript_ (thn (he.run pins s σ H _ I h) fun v s1 ⟨x, H1, I1, r1, q1⟩ => ?_)
  obtain ⟨a, xs, ex, hx, q⟩ := q1
  subst ex
  cases r1
  have hst : PO X (some (.UnaryOp .USub (.Constant (.int 1) k p1) p2)) (tPart (tUn (rU fun i => .int (-i)) (tC (.int 1)))) := po_some (pe_un un_neg pe_int)
  refine wpAny_Slice (thn (po_none.run pins s1 σ H1 (fun o H2 => o = none ∧ H2 = H1) I1 ⟨rfl, rfl⟩) fun vl s2 ⟨l, H2, I2, pl, el, e2⟩ => ?_)
  subst el e2
  refine thn (po_none.run pins s2 σ H2 (fun o H3 => o = none ∧ H3 = H2) I2 ⟨rfl, rfl⟩) fun vu s3 ⟨u, H3, I3, pu, eu, e3⟩ => ?_
  subst eu e3
  refine thn (hst.run pins s3 σ H3 (fun o H4 => o = some (-1) ∧ H4 = H3) I3 ⟨1, rfl, -1, rfl, rfl, rfl⟩) fun vs s4 ⟨o, H4, I4, ps, eo, e4⟩ => ?_
  subst eo e4
  cases pl
  cases pu
  obtain ⟨u4, rfl⟩ : ∃ u4, vs = .int (-1) u4 := by
    cases ps with
    | int i t => exact ⟨t, rfl⟩
  have I5 : Inv X pins σ H4 { s4 with heap := s4.heap.push { cls := .type "slice", data := .fields #[.none, .none, .int (-1) u4] } } := I4.kept (t' := s4.toks) fun b ob q => Heap.get?_push_of_some _ q
  obtain ⟨its, r, ht, hz⟩ := I5.tuple (SqT.of hx)
  have hlen := r.length
  show wpAny (model X.prog X.w) X.A (subscriptTail e (.Slice none none (some (.UnaryOp .USub (.Constant (.int 1) k p1) p2)) p3) (.ref a) (.ref s4.heap.objs.size)) (EP X pins σ Q) X.xe { s4 with heap := s4.heap.push { cls := .type "slice", data := .fields #[.none, .none, .int (-1) u4] } }
  refine tail_any (ops := [.ref a, .ref s4.heap.objs.size]) ht.typeIs (PyProof.Rows.slot_tuple_getitem.lookup) ?_ (by with_unfolding_all rfl)
  refine PySem.UnT.getItem_tuple_rev ht (Heap.IsSliceOf.new _ .none .none (.int (-1) u4)) ?_ (by rw [List.size_toArray]; omega)
  refine ⟨.ref _, _, I5.laid (t' := s4.toks) (o := .tup xs.reverse) (fun b ob q => Heap.get?_push_of_some _ q) (Nat.le_refl _) ?_, rfl, q _ (I5.hok.fresh (Nat.le_refl _))⟩
  refine ⟨by rw [List.length_reverse]; exact hz, _, r.reverse, ?_⟩
  exact IsTup.new _ _
/-- t * k, t not empty -/
def rRepP : R2 := fun x y H Q => ∃ l k xs, x = .ref l ∧ y = .int k ∧ H l = some (.tup xs) ∧ xs ≠ [] ∧ -1000 ≤ k ∧ k ≤ 1000 ∧ xs.length ≤ 1000 ∧
  (k = 1 → Q (.ref l) H) ∧ (k ≠ 1 → ∀ p, H p = none → Q (.ref p) (upd H p (.tup (List.replicate k.toNat xs).flatten)))
theorem u_repT : OpR X (binaryOp .Mult) rRepP := by
  intro pins s σ H x y v u Q I rx ry h
  obtain ⟨l, k, xs, rfl, rfl, hT, hne, h0, h2, hz, q1, q2⟩ := h
  by_cases hk2 : 2 ≤ k
  · exact op_repT pins s σ H _ _ v u Q I rx ry ⟨l, k, xs, rfl, rfl, SqT.of hT, hne, hk2, h2, hz, q2 (by omega)⟩
  cases rx
  obtain ⟨t, rfl⟩ := ry
  obtain ⟨its, r, ⟨⟨cls, dd, data, sl⟩, ho, hc, n, hd⟩, hs⟩ := I.tuple (SqT.of hT)
  simp only at hc hd
  subst hc hd
  have hle : its.length = xs.length := r.length.symm
  have hn : its ≠ [] := fun e => hne (by
    rw [e] at hle
    exact List.eq_nil_of_length_eq_zero hle.symm)
  have hi : its.toArray.isEmpty = false := by
    cases its with
    | nil => exact absurd rfl hn
    | cons a b => rfl
  by_cases hk1 : k = 1
  · subst hk1
    refine wpAny_binaryOp_repeat_ref (T := "tuple") (U := "int") (by decide) ⟨_, ho, rfl⟩ (fun s' => typeIs_int s' 1 t) noFill_tuple_mul F.fills_int_mul F.slot_int_rmul repeat_tuple F.slot_int_index.lookup
      (call_meets F.slot_int_rmul (typeIs_int s 1 t) F.entry_int_rmul (F.args_int_rmul_2 _ _) (int_rmul_tuple 1 t l its.toArray n dd sl)
        ⟨ho, rfl, ⟨_, ho, rfl⟩, call_meets F.slot_tuple_mul ⟨_, ho, rfl⟩ F.entry_tuple_mul (F.args_tuple_mul_2 _ _) (PySem.UnT.tuple_mul1 l its.toArray n dd sl t) ⟨ho, ?_⟩⟩)
    exact ⟨.ref l, H, I, rfl, q1 rfl⟩
  · have c0 : (decide (k < -(2 ^ 63)) || decide (k ≥ 2 ^ 63)) = false := by
      rw [decide_eq_false (by omega), decide_eq_false (by omega)] <;> rfl
    have c1 : (its.toArray.isEmpty || k == 1) = false := by
      rw [hi, Bool.false_or]
      exact beq_eq_false_iff_ne.mpr hk1
    have c2 : (decide (k ≤ 0) || its.toArray.isEmpty) = true := by
      rw [hi, Bool.or_false]
      exact decide_eq_true (by omega)
    refine wpAny_binaryOp_repeat_ref (T := "tuple") (U := "int") (by decide) ⟨_, ho, rfl⟩ (fun s' => typeIs_int s' k t) noFill_tuple_mul F.fills_int_mul F.slot_int_rmul repeat_tuple F.slot_int_index.lookup
      (call_meets F.slot_int_rmul (typeIs_int s k t) F.entry_int_rmul (F.args_int_rmul_2 _ _) (int_rmul_tuple k t l its.toArray n dd sl)
        ⟨ho, rfl, ⟨_, ho, rfl⟩, call_meets F.slot_tuple_mul ⟨_, ho, rfl⟩ F.entry_tuple_mul (F.args_tuple_mul_2 _ _) (PySem.UnT.tuple_mul0 l its.toArray n dd sl k t c0 c1 c2) ⟨ho, ?_⟩⟩)
    have q3 := q2 hk1
    have e : k.toNat = 0 := by omega
    rw [e] at q3
    refine ⟨.ref s.heap.objs.size, _, I.laid (t' := s.toks) (o := .tup []) (fun b ob q => Heap.get?_push_of_some _ q) (Nat.le_refl _) ?_, rfl, q3 _ (I.hok.fresh (Nat.le_refl _))⟩
    exact ⟨Nat.zero_le _, _, .nil, IsTup.new _ _⟩
/-- t + u -/
def rCatP : R2 := fun x y H Q => ∃ a b xs ys, x = .ref a ∧ y = .ref b ∧ H a = some (.tup xs) ∧ H b = some (.tup ys) ∧ xs.length + ys.length ≤ 1000000 ∧
  (xs = [] → Q (.ref b) H) ∧ (ys = [] → Q (.ref a) H) ∧ (∀ p, H p = none → Q (.ref p) (upd H p (.tup (xs ++ ys))))
theorem u_catT : OpR X (binaryOp .Add) rCatP := L2.OpR.imp op_catA fun x y H Q h => by
  obtain ⟨a, b, xs, ys, rfl, rfl, ha, hb, hz, q0, q1, q2⟩ := h
  exact ⟨a, b, xs, ys, rfl, rfl, SqT.of ha, SqT.of hb, by rw [sizeLine_eq]; omega, q0, fun _ => q1, fun _ _ => q2⟩
/-- t[lo:hi] -/
def rSlTP : V → Option Int → Option Int → Hp → VK → Prop := fun x lo hi H Q => ∃ a xs, x = .ref a ∧ H a = some (.tup xs) ∧
  (cutV xs lo hi = xs → Q (.ref a) H) ∧ (∀ p, H p = none → Q (.ref p) (upd H p (.tup (cutV xs lo hi))))
theorem _root_.L2.SlR.imp {r r' : V → Option Int → Option Int → Hp → VK → Prop} (h : SlR X r) (hi : ∀ x lo hi H Q, r' x lo hi H Q → r x lo hi H Q) : SlR X r' :=
  fun pins s σ H x v vl vu lo hi' sl Q I rx hs pl pu q => h pins s σ H x v vl vu lo hi' sl Q I rx hs pl pu (hi _ _ _ _ _ q)
theorem u_slT : SlR X rSlTP := L2.SlR.imp sl_tupA fun x lo hi H Q h => by
  obtain ⟨a, xs, rfl, ha, q1, q2⟩ := h
  refine ⟨a, xs, rfl, SqT.of ha, fun hw => q1 ?_, fun _ => q2⟩
  unfold cutV
  rw [hw.1, hw.2, List.drop_zero, Nat.sub_zero, List.take_length]
def rSlLP : V → Option Int → Option Int → Hp → VK → Prop := fun x lo hi H Q => ∃ a xs, x = .ref a ∧ H a = some (.lst xs) ∧ ∀ p, H p = none → Q (.ref p) (upd H p (.lst (cutV xs lo hi)))
theorem u_slL : SlR X rSlLP := L2.SlR.imp sl_list fun x lo hi H Q h => by
  obtain ⟨a, xs, rfl, ha, q⟩ := h
  exact ⟨a, xs, rfl, SqL.of ha, q⟩
/-- t[:k], t[k:], t[k:l] -/
theorem cut_to (xs : List V) (k : Nat) : cutV xs none (some (k : Int)) = xs.take k := by
  unfold cutV
  rw [HT.sIx_none, HT.sIx_nat, List.drop_zero, Nat.sub_zero, List.take_eq_take_iff]
  omega
theorem cut_from (xs : List V) (k : Nat) : cutV xs (some (k : Int)) none = xs.drop k := by
  unfold cutV
  rw [HT.sIx_none, HT.sIx_nat]
  have h1 : ∀ j, xs.drop (min j xs.length) = xs.drop j := fun j => by
    rcases Nat.le_total j xs.length with h | h
    · rw [Nat.min_eq_left h]
    · rw [Nat.min_eq_right h, List.drop_length, List.drop_eq_nil_of_le h]
  rw [h1]
  refine List.take_of_length_le ?_
  rw [List.length_drop]
  omega
theorem cut_back (xs : List V) (k : Nat) (hk : 0 < k) : cutV xs (some (-(k : Int))) none = xs.drop (xs.length - k) := by
  unfold cutV
  have e : HT.sIx xs.length 0 (some (-(k : Int))) = xs.length - k := by
    show (if -(k : Int) < 0 then (-(k : Int) + (xs.length : Int)).toNat else _) = _
    rw [if_pos (by omega)]
    omega
  rw [HT.sIx_none, e]
  refine List.take_of_length_le ?_
  rw [List.length_drop]
  exact Nat.le_refl _
theorem cut_mid (xs : List V) (k l : Nat) (h : l ≤ xs.length) (h2 : k ≤ l) : cutV xs (some (k : Int)) (some (l : Int)) = (xs.drop k).take (l - k) := by
  unfold cutV
  rw [HT.sIx_nat, HT.sIx_nat, Nat.min_eq_left h, Nat.min_eq_left (by omega)]
end
/-! ### steps -/
section
variable {X : Cx} {σ : L2.St} {H : Hp} {Q : VK} {te ta tb : TE} {a b : Addr} {xs ys : List V} {k i : Int} {lo hi : Option Int} {n : Nat} {c d : Bool}
theorem s_sl {r : V → Option Int → Option Int → Hp → VK → Prop} {tl th : TO} (h : te σ H fun x H1 => tl σ H1 fun l H2 => th σ H2 fun u H3 => r x l u H3 Q) : tSl r te tl th σ H Q := h
theorem s_noPart {P : Option Int → Hp → Prop} (h : P none H) : tNoPart σ H P := h
theorem s_part {P : Option Int → Hp → Prop} (h : te σ H fun x H1 => ∃ i, x = .int i ∧ P (some i) H1) : tPart te σ H P := h
theorem s_slT (ha : H a = some (.tup xs)) (q1 : cutV xs lo hi = xs → Q (.ref a) H) (q2 : ∀ p, H p = none → Q (.ref p) (upd H p (.tup (cutV xs lo hi)))) : rSlTP (.ref a) lo hi H Q := ⟨a, xs, rfl, ha, q1, q2⟩
theorem s_slL (ha : H a = some (.lst xs)) (q : ∀ p, H p = none → Q (.ref p) (upd H p (.lst (cutV xs lo hi)))) : rSlLP (.ref a) lo hi H Q := ⟨a, xs, rfl, ha, q⟩
theorem s_catT (ha : H a = some (.tup xs)) (hb : H b = some (.tup ys)) (hz : xs.length + ys.length ≤ 1000000) (q0 : xs = [] → Q (.ref b) H) (q1 : ys = [] → Q (.ref a) H) (q2 : ∀ p, H p = none → Q (.ref p) (upd H p (.tup (xs ++ ys)))) : rCatP (.ref a) (.ref b) H Q := ⟨a, b, xs, ys, rfl, rfl, ha, hb, hz, q0, q1, q2⟩
theorem s_catL (ha : H a = some (.lst xs)) (hb : H b = some (.lst ys)) (hz : xs.length + ys.length ≤ 1000000) (q : ∀ p, H p = none → Q (.ref p) (upd H p (.lst (xs ++ ys)))) : rCat (.ref a) (.ref b) H Q := ⟨a, b, xs, ys, rfl, rfl, ha, hb, by rw [sizeLine_eq]; omega, q⟩
theorem s_isB (q : Q (.bl (decide (c = d))) H) : rIsB (.bl c) (.bl d) H Q := ⟨c, d, rfl, rfl, q⟩
theorem s_notB (q : Q (.bl (!decide (c = d))) H) : rNotB (.bl c) (.bl d) H Q := ⟨c, d, rfl, rfl, q⟩
theorem s_tupF {p : Addr} (h : H p = some (.lst xs)) (q : ∀ l, H l = none → Q (.ref l) (upd H l (.tup xs))) : rTupF [.ref p] H Q := ⟨p, xs, rfl, h, q⟩
theorem s_lstL {p : Addr} (h : H p = some (.lst xs)) (q : ∀ l, H l = none → Q (.ref l) (upd H l (.lst xs))) : rLstF [.ref p] H Q := ⟨p, xs, rfl, .inl h, q⟩
theorem s_lstT {p : Addr} (h : H p = some (.tup xs)) (q : ∀ l, H l = none → Q (.ref l) (upd H l (.lst xs))) : rLstF [.ref p] H Q := ⟨p, xs, rfl, .inr h, q⟩
end
end Un
/-! x == y where the class of x has its own __eq__ that answers a bool; isinstance of own classes. -/
namespace Un
open PySem L2 PySem.Spec PyProof.Rows
/-- x == y, x an instance of C, y anything whose class is no heir of C -/
def rEqO (K : PySem.W.Frag) (C : Addr) (sp : Sp) (E : XK) : R2 := fun x y H Q => ∃ a dx fs t, x = .ref a ∧ H a = some (.ins C dx fs) ∧ TyX K H y t ∧ PySem.W.notFirst K C t = true ∧
  sp [x, y] H (fun v H' => ∃ b, v = .bl b ∧ Q (.bl b) H') E
section
variable {X : Cx}
theorem op_eqO {CX : CXT} {C f : Addr} {fd : FuncData} {ps : List Str} {sp : Sp} {E : XK} {n : Nat} (F : FnOk X.prog X.w X.K X.mg X.base CX n f fd ps sp)
    (hs : PySem.W.findIn X.K (.ref C) "__eq__" = some (some (.ref f))) (hf : PySem.W.isFn X.K (.ref f) = true) (hb : Binds X.K fd ps []) (hx : Passes CX X E) (hr : Room n X.A) : OpR X (compareOp .Eq) (rEqO X.K C sp E) := by
  intro pins s σ H x y v u Q I rx ry h
  obtain ⟨a, dx, fs, t, rfl, ha, ty, hn, q⟩ := h
  cases rx
  obtain ⟨mA, J, _⟩ := ins_get I.hok ha
  obtain ⟨od, J, _⟩ := J.look
  obtain ⟨m, hF⟩ := I.fr
  obtain ⟨P, Z, p, _⟩ := kit_of I ry ty
  show wpAny (model X.prog X.w) X.A (richCompare .Eq (.ref a) u) (EP X pins σ Q) X.xe s
  refine PySem.W.cmp_K (op := .Eq) (tb := t) hr.units0 hF I.ok.mod.kin J (Z.ty _ _ I.kIn p) hn hs hf ?_
  have hl := F.len _ _ _ _ q
  have r2 : Vals [V.ref a, y] [Value.ref a, u] := .cons rfl (.cons ry .nil)
  refine wpAny_call (codeAny_mono (F.run X.A X.stack s H ⟨[.ref a, u], []⟩ [.ref a, u] [.ref a, y] _ E hr I.env0 (by
    have := hb s [.ref a, u] I.kIn (by simpa using hl)
    simpa using this) r2 q) fun r s' hq => ?_)
  cases r with
  | error e => exact hx pins σ H s e s' I hq
  | ok fl =>
    cases fl with
    | ret w =>
      obtain ⟨z, H', I', rz, b, ez, q2⟩ := I.after hq
      subst ez
      cases rz
      exact ⟨.bl b, H', I', rfl, q2⟩
    | next => exact False.elim hq
    | brk => exact False.elim hq
    | cont => exact False.elim hq
/-- isinstance(x, C), C an own class -/
def rIsC (K : PySem.W.Frag) : List V → Hp → VK → Prop := fun xs H Q => ∃ (x : V) (C : Addr) (t : Value) (b : Bool), xs = [x, .ref C] ∧ TyX K H x t ∧ PySem.W.kitOne K t (.ref C) = some b ∧ Q (.bl b) H
theorem u_isC : CallR X (.builtin "isinstance") (rIsC X.K) := L2.CallR.imp call_isi fun xs H Q h => by
  obtain ⟨x, C, t, b, rfl, h1, h2, q⟩ := h
  exact ⟨x, .ref C, t, .ref C, b, rfl, .own C, h1, h2, q⟩
end
/-- what an own class's instances are, to isinstance -/
structure InsTxt (K : PySem.W.Frag) (C : Addr) : Prop where
  cl : Cls K C
  ha : PySem.W.findIn K (.ref C) "__class__" = some (some (.builtin "object.__class__"))
  hn : PySem.W.specialIn K (.builtin "object.__class__") "__get__" = some (some (.builtin "getset_descriptor.__get__"))
  htk : PySem.W.takesIn K (.builtin "object.__class__") = some true
  hm : PySem.W.mroIn K C (.type "object") = some true
theorem InsTxt.ty {K : PySem.W.Frag} {C : Addr} (T : InsTxt K C) {H : Hp} {a dx : Addr} {fs : List (Str × V)} (e : H a = some (.ins C dx fs)) : TyX K H (.ref a) (.ref C) := .base (.ins e T.cl T.ha T.hn T.htk T.hm)
end Un
/-! The law's hand; comprehensions whose items are laid anew; lists put in another order. -/
namespace Un
open PySem L2 PySem.Spec PyProof.Rows
/-- the hand at a: what stands still is G -/
structure HandAt (G H : Hp) (a : Addr) : Prop where
  ex : ∃ (c : Addr) (cells : List Int) (i : Nat) (big s t : Int), G c = some (.lst (cells.map V.int)) ∧ H a = some (.lst [.ref c, .int (i : Int), .int big, .int s, .int t])
  out : G a = none
  same : Same G H
section
variable {G0 H0 G H G1 H1 : Hp} {a p q b : Addr} {o u : HO}
theorem HandAt.keep (h : HandAt G H a) (g : Same G G1) (e : Same G1 H1) (n : G1 a = none) (k : ∀ o, H a = some o → H1 a = some o) : HandAt G1 H1 a := by
  obtain ⟨c, cells, i, big, s, t, h1, h2⟩ := h.ex
  exact ⟨⟨c, cells, i, big, s, t, g _ _ h1, k _ h2⟩, n, e⟩
theorem HandAt.ne (h : HandAt G H a) (hp : H p = none) : p ≠ a := by
  rintro rfl
  obtain ⟨_, _, _, _, _, _, _, h2⟩ := h.ex
  rw [hp] at h2
  cases h2
theorem HandAt.some (h : HandAt G H a) : H a ≠ none := by
  obtain ⟨_, _, _, _, _, _, _, h2⟩ := h.ex
  rw [h2]
  simp
/-- a stretch of the run that uses the hand -/
structure Stp (a : Addr) (G0 H0 G H : Hp) : Prop where
  run : Run (m1 a) G0 H0 G H
  hand : HandAt G H a
theorem Stp.refl (h : HandAt G H a) : Stp a G H G H := ⟨.refl h.same, h⟩
theorem Stp.call (s : Stp a G0 H0 G H) (c : Stp a G H G1 H1) : Stp a G0 H0 G1 H1 := ⟨s.run.callm c.run, c.hand⟩
theorem Stp.call0 (s : Stp a G0 H0 G H) (c : Run m0 G H G1 H1) : Stp a G0 H0 G1 H1 :=
  ⟨s.run.call0 c, s.hand.keep c.gg c.gh (by
    obtain ⟨_, _, _, _, _, _, _, h2⟩ := s.hand.ex
    exact c.out s.hand.out h2) fun o h => c.same a o h⟩
theorem Stp.new (s : Stp a G0 H0 G H) (h : H p = none) : Stp a G0 H0 G (upd H p o) :=
  ⟨s.run.new h, s.hand.keep (.refl _) (s.run.new h).gh s.hand.out fun o e => by rw [upd_ne (ne_of_none e h)]; exact e⟩
theorem Stp.lay (s : Stp a G0 H0 G H) (h : H p = none) : Stp a G0 H0 (upd G p o) (upd H p o) :=
  ⟨s.run.lay h, s.hand.keep (L2.Same.new (gfree s.run.gh h)) (s.run.lay h).gh (by rw [upd_ne (Ne.symm (s.hand.ne h))]; exact s.hand.out) fun o e => by rw [upd_ne (ne_of_none e h)]; exact e⟩
theorem Stp.more (s : Stp a G0 H0 G H) (e : Same H H1) : Stp a G0 H0 G H1 := ⟨s.run.more e, s.hand.keep (.refl _) (s.run.more e).gh s.hand.out fun o h => e _ _ h⟩
theorem Stp.put (s : Stp a G0 H0 G H) (g : G p = none) (h : H0 p = none) (hp : p ≠ a) : Stp a G0 H0 G (upd H p o) :=
  ⟨s.run.put g (.inl h), s.hand.keep (.refl _) (s.run.put g (.inl h)).gh s.hand.out fun o e => by rw [upd_ne (Ne.symm hp)]; exact e⟩
theorem Stp.hold (s : Stp a G0 H0 G H) (h0 : H0 p = none) (g : G p = none) (h : H p = some o) (hp : p ≠ a) : Stp a G0 H0 (upd G p o) H :=
  ⟨s.run.hold h0 g h, s.hand.keep (L2.Same.new g) (s.run.hold h0 g h).gh (by rw [upd_ne (Ne.symm hp)]; exact s.hand.out) fun o e => e⟩
theorem Stp.kp (s : Stp a G0 H0 G H) (h : H0 p = some o) (hp : p ≠ a) : H p = some o := s.run.kp p o h hp
theorem Stp.out (s : Stp a G0 H0 G H) (g : G0 p = none) (h : H0 p = some o) : G p = none := s.run.out g h
theorem Stp.gg (s : Stp a G0 H0 G H) : Same G0 G := s.run.gg
theorem Stp.gh (s : Stp a G0 H0 G H) : Same G H := s.run.gh
theorem Stp.free (s : Stp a G0 H0 G H) (h : H p = none) : H0 p = none := s.run.free h
end
/-! ### comprehensions whose items are laid anew -/
section
variable {K : PySem.W.Frag} {σ : L2.St} {G0 H : Hp} {Q : VK} {te tx : TE} {ta : TA} {g : TG} {vs : List Nat} {a : Addr} {xs : List V}
def LdTurn (G0 H : Hp) (g : TG) (tx : TE) (vs : List Nat) (σ : L2.St) (R : Nat → List V → Hp → Prop) (i : Nat) (x : V) : Prop :=
  ∀ (acc : List V) (G1 H1 : Hp), acc.length = i → Run m0 G0 H G1 H1 → R i acc G1 → ∀ P : VK, (∀ y G4 H4, Run m0 G1 H1 G4 H4 → R (i + 1) (acc ++ [y]) G4 → P y H4) →
    g x (wipe σ vs) H1 fun σ2 H2 => wipe σ2 vs = wipe σ vs ∧ tx σ2 H2 P
def LdAt (G0 H : Hp) (R : Nat → List V → Hp → Prop) (D : Addr) (i : Nat) (H1 : Hp) : Prop := ∃ acc G1, Run m0 G0 H G1 H1 ∧ G1 D = none ∧ H1 D = some (.lst acc) ∧ R i acc G1 ∧ acc.length = i
theorem LdAt.step {R : Nat → List V → Hp → Prop} {D : Addr} {i : Nat} {x : V} (hD : H D = none) (hi : i < 100000) (ht : LdTurn G0 H g tx vs σ R i x) {H1 : Hp} (h : LdAt G0 H R D i H1) :
    g x (wipe σ vs) H1 fun σ2 H2 => wipe σ2 vs = wipe σ vs ∧ tx σ2 H2 fun y H4 => ∃ acc, H4 D = some (.lst acc) ∧ acc.length < sizeLine ∧ LdAt G0 H R D (i + 1) (upd H4 D (.lst (acc ++ [y]))) := by
  obtain ⟨acc, G1, r, g1, h1, hr, hl⟩ := h
  refine ht acc G1 H1 hl r hr _ fun y G4 H4 c hr4 => ?_
  have g4 := c.out g1 h1
  refine ⟨acc, c.same _ _ h1, by rw [sizeLine_eq]; omega, acc ++ [y], G4, (r.call0 c).put g4 (.inl hD), g4, upd_same, hr4, by rw [List.length_append, hl]; rfl⟩
theorem s_ldT (R : Nat → List V → Hp → Prop) (hg : Same G0 H) (ha : H a = some (.tup xs)) (hn : xs.length ≤ 100000) (he : ∀ Q : VK, Q (.ref a) H → te σ H Q) (h0 : R 0 [] G0) (hx : ∀ i x, xs[i]? = some x → LdTurn G0 H g tx vs σ R i x)
    (k : ∀ p acc G1 H1, H p = none → Run m0 G0 H G1 H1 → G1 p = none → H1 p = some (.lst acc) → acc.length = xs.length → R xs.length acc G1 → Q (.ref p) H1) : tLc (iTup K te) g tYes tx vs σ H Q := by
  show iTup K te σ H _
  refine he _ ⟨a, rfl, ⟨xs, SqT.of ha⟩, fun D hD => ?_⟩
  refine lc_tup (K := K) (a := a) (xs := xs) (LdAt G0 H R D) ⟨[], G0, (Run.refl hg).new hD, gfree hg hD, upd_same, h0, rfl⟩ (fun i H1 _ ⟨_, _, r, _⟩ => SqT.of (r.same _ _ ha)) (fun i x H1 hi h => ?_) fun H1 ⟨acc, G1, r, g1, h1, hr, hl⟩ => k D acc G1 H1 hD r g1 h1 hl hr
  have hil : i < xs.length := (List.getElem?_eq_some_iff.mp hi).1
  exact h.step hD (by omega) (hx i x hi)
theorem s_ldL (R : Nat → List V → Hp → Prop) (hg : Same G0 H) (ha : H a = some (.lst xs)) (hn : xs.length ≤ 100000) (he : ∀ Q : VK, Q (.ref a) H → te σ H Q) (h0 : R 0 [] G0) (hx : ∀ i x, xs[i]? = some x → LdTurn G0 H g tx vs σ R i x)
    (k : ∀ p acc G1 H1, H p = none → Run m0 G0 H G1 H1 → G1 p = none → H1 p = some (.lst acc) → acc.length = xs.length → R xs.length acc G1 → Q (.ref p) H1) : tLc (iList K te) g tYes tx vs σ H Q := by
  show iList K te σ H _
  refine he _ ⟨a, rfl, ⟨xs, SqL.of ha⟩, fun D hD => ?_⟩
  refine lc_list (K := K) (a := a) (xs := xs) (LdAt G0 H R D) ⟨[], G0, (Run.refl hg).new hD, gfree hg hD, upd_same, h0, rfl⟩ (fun i H1 _ ⟨_, _, r, _⟩ => SqL.of (r.same _ _ ha)) (fun i x H1 hi h => ?_) fun H1 ⟨acc, G1, r, g1, h1, hr, hl⟩ => k D acc G1 H1 hD r g1 h1 hl hr
  have hil : i < xs.length := (List.getElem?_eq_some_iff.mp hi).1
  exact h.step hD (by omega) (hx i x hi)
theorem s_ldR (R : Nat → List V → Hp → Prop) (n : Nat) (hg : Same G0 H) (hn : n ≤ 100000) (he : ∀ Q : List V → Hp → Prop, Q [.int n] H → ta σ H Q) (h0 : R 0 [] G0) (hx : ∀ i, i < n → LdTurn G0 H g tx vs σ R i (.int i))
    (k : ∀ p acc G1 H1, H p = none → Run m0 G0 H G1 H1 → G1 p = none → H1 p = some (.lst acc) → acc.length = n → R n acc G1 → Q (.ref p) H1) : tLc (iRng1 ta) g tYes tx vs σ H Q := by
  show iRng1 ta σ H _
  refine he _ ⟨n, rfl, by omega, by omega, fun D hD => ?_⟩
  have en : ((n : Int)).toNat = n := Int.toNat_natCast n
  rw [en]
  refine lc_range (lo := 0) (n := n) (LdAt G0 H R D) ⟨[], G0, (Run.refl hg).new hD, gfree hg hD, upd_same, h0, rfl⟩ (fun i H1 hi h => ?_) fun H1 ⟨acc, G1, r, g1, h1, hr, hl⟩ => k D acc G1 H1 hD r g1 h1 hl hr
  have e0 : (0 : Int) + (i : Int) = i := Int.zero_add _
  rw [e0]
  exact h.step hD (by omega) (hx i hi)
end
/-! ### another order -/
theorem RpAll.perm {H : Hp} {xs ys : List V} (p : ys.Perm xs) : ∀ {ds : List PyData}, RpAll H ds xs → ∃ es, es.Perm ds ∧ RpAll H es ys := by
  induction p with
  | nil => exact fun {ds} h => ⟨ds, .refl _, h⟩
  | @cons x l1 l2 p ih =>
    intro ds h
    cases ds with
    | nil =>
      rw [rpAll_nil] at h
      cases h
    | cons d ds =>
      obtain ⟨_, _, e, h1, h2⟩ := rpAll_cons.mp h
      cases e
      obtain ⟨es, q1, q2⟩ := ih h2
      exact ⟨d :: es, q1.cons d, .cons h1 q2⟩
  | @swap x y l =>
    intro ds h
    cases ds with
    | nil =>
      rw [rpAll_nil] at h
      cases h
    | cons d ds =>
      obtain ⟨_, _, e, h1, h2⟩ := rpAll_cons.mp h
      cases e
      cases ds with
      | nil =>
        rw [rpAll_nil] at h2
        cases h2
      | cons d' ds =>
        obtain ⟨_, _, e, h3, h4⟩ := rpAll_cons.mp h2
        cases e
        exact ⟨d' :: d :: ds, .swap .., .cons h3 (.cons h1 h4)⟩
  | trans p1 p2 ih1 ih2 =>
    intro ds h
    obtain ⟨es, q1, q2⟩ := ih2 h
    obtain ⟨fs, q3, q4⟩ := ih1 q2
    exact ⟨fs, q3.trans q1, q4⟩
theorem sorted_nat {ns : List Nat} {ms : List Int} (p : ms.Perm (ns.map fun n : Nat => (n : Int))) (h : ms.Pairwise (· ≤ ·)) : ∃ ls : List Nat, ms = (ls.map fun n : Nat => (n : Int)) ∧ ls.Perm ns ∧ ls.Pairwise (· ≤ ·) := by
  have h0 : ∀ x ∈ ms, 0 ≤ x := fun x hx => by
    obtain ⟨n, _, rfl⟩ := List.mem_map.mp (p.mem_iff.mp hx)
    exact Int.natCast_nonneg n
  have e : ms = ((ms.map Int.toNat).map fun n : Nat => (n : Int)) := map_toNat h0
  refine ⟨ms.map Int.toNat, e, ?_, ?_⟩
  · have q := p.map Int.toNat
    rw [List.map_map] at q
    have : (Int.toNat ∘ fun n : Nat => (n : Int)) = id := by
      funext n
      exact Int.toNat_natCast n
    rw [this, List.map_id] at q
    exact q
  · refine List.pairwise_map.mpr (h.imp_of_mem fun {x y} hx hy hxy => ?_)
    have := h0 x hx
    have := h0 y hy
    omega
theorem lt_of_le_nodup {ls : List Nat} (h : ls.Pairwise (· ≤ ·)) (d : ls.Nodup) : ls.Pairwise (· < ·) := by
  refine (List.Pairwise.and h d).imp fun {x y} ⟨h1, h2⟩ => ?_
  omega
theorem vN_ints (ns : List Nat) : vN ns = (ns.map fun n : Nat => (n : Int)).map V.int := by
  unfold vN
  rw [List.map_map]
  rfl
/-- sorted(..) of a list of lots' things -/
theorem s_sortedL {H : Hp} {Q : VK} {a : Addr} {ns : List Nat} (h : H a = some (.lst (vN ns))) (q : ∀ (ls : List Nat) p, ls.Perm ns → ls.Pairwise (· ≤ ·) → H p = none → Q (.ref p) (upd H p (.lst (vN ls)))) : rSortedLP [.ref a] H Q := by
  refine ⟨a, ns.map fun n : Nat => (n : Int), rfl, by rw [← vN_ints]; exact h, fun ms p h1 h2 hp => ?_⟩
  obtain ⟨ls, rfl, q1, q2⟩ := sorted_nat h1 h2
  rw [← vN_ints]
  exact q ls p q1 q2 hp
theorem s_sortedT {H : Hp} {Q : VK} {a : Addr} {ns : List Nat} (h : H a = some (.tup (vN ns))) (q : ∀ (ls : List Nat) p, ls.Perm ns → ls.Pairwise (· ≤ ·) → H p = none → Q (.ref p) (upd H p (.lst (vN ls)))) : rSortedTP [.ref a] H Q := by
  refine ⟨a, ns.map fun n : Nat => (n : Int), rfl, by rw [← vN_ints]; exact h, fun ms p h1 h2 hp => ?_⟩
  obtain ⟨ls, rfl, q1, q2⟩ := sorted_nat h1 h2
  rw [← vN_ints]
  exact q ls p q1 q2 hp
/-! ### places -/
theorem atI_nat {α : Type} (xs : List α) (k : Nat) : atI xs (k : Int) = xs[k]? := by
  unfold atI ixN
  rw [if_pos (Int.natCast_nonneg k)]
  by_cases h : (k : Int) < (xs.length : Int)
  · rw [if_pos h]
    show xs[((k : Int)).toNat]? = _
    rw [Int.toNat_natCast]
  · rw [if_neg h, List.getElem?_eq_none (by omega)]
    rfl
theorem atI_in {α : Type} {xs : List α} {k : Nat} (h : k < xs.length) : ∃ x, atI xs (k : Int) = some x ∧ x ∈ xs := by
  rw [atI_nat, List.getElem?_eq_getElem h]
  exact ⟨_, rfl, List.getElem_mem h⟩
theorem atI_vN {ns : List Nat} {k : Nat} (h : k < ns.length) : atI (vN ns) (k : Int) = some (.int (ns[k] : Nat)) := by
  rw [atI_nat]
  unfold vN
  rw [List.getElem?_map, List.getElem?_eq_getElem h]
  rfl
theorem rgV_nat (n : Nat) : rgV 0 (n : Int) = vN (List.range n) := by
  unfold rgV vN
  rw [Int.sub_zero, Int.toNat_natCast]
  apply List.map_congr_left
  intro i _
  rw [Int.zero_add]
theorem vN_len (ns : List Nat) : (vN ns).length = ns.length := by unfold vN; rw [List.length_map]
end Un
/-! raise C(v), C an own class over ValueError (perhaps over an own class) whose __init__ says super().__init__(text); self.F = v. -/
namespace PySem
namespace PZ
open PySem.W PySem.Calls PyProof.Rows PySem.HandSPX
def iA (p1 p2 : Pos) : Arguments := { posonlyargs := [], args := [{ arg := "self", annotation := none, pos := p1 }, { arg := "part", annotation := none, pos := p2 }], vararg := none, kwonlyargs := [], kw_defaults := [], kwarg := none, defaults := [] }
def iB (msg : Str) (jj : Nat) (q1 q2 q3 q4 q5 q6 q7 q8 q9 q10 : Pos) : List Stmt :=
  [.Expr (.Call (.Attribute (.Call (.Name "super" q1) [] [] q2) "__init__" q3) [.Constant (.str msg) jj q4] [] q5) q6, .Assign [.Attribute (.Name "self" q7) "part" q8] (.Name "part" q9) q10]
def iS : Scope := { kind := .function, names := [(PySem.Str.ofString "self", .local), (PySem.Str.ofString "part", .local), (PySem.Str.ofString "__class__", .free), (PySem.Str.ofString "super", .globalImplicit)], isGenerator := false, isCoroutine := false, more := [] }
/-- what the written part says of the class at C and of its __init__, at fI -/
structure Txt (prog : Program) (K : Frag) (mg : Str → Option Value) (nameC : Str) (C fI : Addr) : Prop where
  gC : mg nameC = some (.ref C)
  gS : mg "super" = none
  cls : ∃ nm q N bs bm sn sub ab col dd k0 k1 k2 k3 k5, K.lookup C = some (excClassObj nm q C N bs bm true sn sub ab col dd k0 k1 k2 k3 k5 "ValueError.__new__") ∧ refsVE bm = true
  sa : findIn K (.ref C) "__setattr__" = some (some (.builtin "object.__setattr__"))
  ga : findIn K (.ref C) "__getattribute__" = some (some (.builtin "BaseException.__getattribute__"))
  gg : findIn K (.ref C) "__getattr__" = some none
  noN : findIn K (.ref C) "part" = some none
  iC : findIn K (.ref C) "__init__" = some (some (.ref fI))
  tC : typeIn K (.ref fI) = some (.type "function")
  kC : keepIn K (.ref C) = true
  exC : subIn K (.ref C) (.type "BaseException") = some true
  tyC : typeIn K (.ref C) = some (.type "type")
  hdC : hasDictIn K C = true
  te : exmOne K (.ref C) (.ref C) = some true
  mro : mroIn K C (.ref C) = some true
  sup : ks_superIn K C C "__init__" = some (some (.builtin "ValueError.__init__"))
  sv : subIn K (.ref C) (.type "ValueError") = some true
  any : nsIn K cStatics "thirdparty.any" = some none
  top : (prog.main.scope.names.lookup ("super" : Str)).isSome = false
  fn : ∃ (msg : Str) (jj : Nat) (oc cl ccl : Value) (od cdd cld : Option Addr) (doc pm : Value) (an : Option Addr) (ct : Value) (osl csl ccs : Array (Option Value)) (cc cda : Addr) (vs : Array Value) (file : Str) (tf : Tok) (qual : Str) (p1 p2 q1 q2 q3 q4 q5 q6 q7 q8 q9 q10 : Pos),
    K.lookup fI = some ⟨oc, od, .func (ksFn "__init__" qual (iA p1 p2) (iB msg jj q1 q2 q3 q4 q5 q6 q7 q8 q9 q10) iS .none .none doc pm an (.ref cda) ct cc), osl⟩ ∧ codeIn K (.ref cda) qual = true ∧
    K.lookup cc = some ⟨cl, cld, .cell (some (.ref C)), csl⟩ ∧ K.lookup cda = some ⟨ccl, cdd, .fields vs, ccs⟩ ∧ vs[2]? = some (.str file tf) ∧ ((prog.main.file : Str) == file) = true ∧ (q3.endLine == q5.line) = true
/-- a made one -/
structure OwnMade (h h' : Heap) (e C d : Addr) (v : Value) : Prop where
  keep : ∀ b o, h.get? b = some o → h'.get? b = some o
  new : h.objs.size ≤ e
  obj : ∃ oe vs, h'.get? e = some oe ∧ oe.cls = .ref C ∧ oe.dict = some d ∧ oe.data = .fields vs ∧ vs[1]? = some .none
  dbig : h.objs.size ≤ d
  dne : d ≠ e
  ns : h'.Ns1 d (fun y => if y = "part" then some v else none)
theorem one_size (v : Value) : [v].length ≤ sizeLine := by
  rw [sizeLine_eq]
  exact (by decide : 1 ≤ 16777216)
section
variable {prog : Program} {w : World} {A : Around} {E : Value → Shared → Prop} {R : Result → Shared → Prop} {s : Shared} {K : Frag} {mg : Str → Option Value} {C fI : Addr} {nameC : Str}
/-- ValueError.__init__ bound to the exception, called -/
theorem call_bwV {h : Heap} {g : Array GenState} {d : Drawn} {t : Nat} {os : OsState} {nm q : Str} {C N : Addr} {bs bm : List Value} {hdct : Bool} {sn : List Str} {sub : List Value} {ab : Bool} {col : Option Bool} {dd : Option Addr} {k0 k1 k2 k3 k5 : Option Value}
    {u e t0 : Addr} {rest : List Value} {Q : Value → Shared → Prop}
    (hC : h.get? C = some (excClassObj nm q C N bs bm hdct sn sub ab col dd k0 k1 k2 k3 k5 "ValueError.__new__")) (he : h.get? e = some (excO C t0)) (hu : h.get? u = some (kxs_mw "ValueError.__init__" e)) (hrest : rest.length ≤ sizeLine)
    (hq : ∀ h' t1, (∀ b o, b ≠ e → h.get? b = some o → h'.get? b = some o) → h'.get? e = some (excO C t1) → Q .none ⟨h', g, d, t, os⟩) :
    wpAny (model prog w) A (call (.ref u) rest) Q E ⟨h, g, d, t, os⟩ := by
  refine wpAny_call (codeAny_of_tree ?_)
  show wpAny _ A.in1 (callAny (.ref u) ⟨rest, []⟩) _ _ _
  simp only [callAny]
  refine wpAny_bind (wpAny_load hu ?_)
  simp only [kxs_mw, show (Value.type "method-wrapper" == Value.type "method" || Value.type "method-wrapper" == Value.type "builtin_function_or_method" || Value.type "method-wrapper" == Value.type "method-wrapper") = true by decide, if_true]
  refine W.KFB.if_so (by decide) ?_
  refine wpAny_bind (check_bound_init F.excBase_ValueError.toExcCallFacts hC he rfl ?_)
  refine wpAny_bind (wpAny_pure (wpAny_pure ?_))
  refine ⟨plainId_quiet F.excBase_ValueError.init.plain _, codeAny_builtin F.excBase_ValueError.initEntry ?_⟩
  exact exc_init_tree (cls := .ref C) (t0 := t0) (dv := none) (c2 := .none) (c3 := .none) (b4 := .bool false) he hrest (fun h' k e' _ => hq h' h.objs.size k e')
theorem ldC {M : Model} {s : Shared} {m : Str → Option Value} {env : Env} {x : Str} {pos : Pos} {v : Value} {Q : Value → Shared → Prop} {A : Around} {E : Value → Shared → Prop} (hn : s.heap.Ns env.locals m) (hv : m x = some v) (h : Q v s)
    (hk : env.scope.kind = .function) (hl : env.kindOf x = some .local) (hd : (x == ("__debug__" : Str)) = false) :
    wpAny M A (eval (.Name x pos) env) Q E s := wpAny_Name (wpAny_loadName_local hk hl hn hv h) hd

theorem looks_cls {M : Model} {h : Heap} {K : Frag} {C : Addr} {cd : ClassData} (X : K.In h) (hc : clsIn K C = some cd) : Looks M h (mroOf (.ref C)) cd.mro := (looks_clsIn X hc).andThen .now
theorem he_super {msg : Str} {jj : Nat} {q1 q2 q3 q4 q5 : Pos} {env : Env} (hln : (q3.endLine == q5.line) = true) : eval (.Call (.Attribute (.Call (.Name "super" q1) [] [] q2) "__init__" q3) [.Constant (.str msg) jj q4] [] q5) env = (do
      let ov ← attributeBase (.Call (.Name "super" q1) [] [] q2) "__init__" env (eval (.Call (.Name "super" q1) [] [] q2) env)
      standAt q3.atName
      let (f, first) ← holding [ov] (getMethod ov "__init__" (do return (← importBound (.Call (.Name "super" q1) [] [] q2) env).getD true))
      callWith q5 f first (backTo q5 (starEach [.Constant (.str msg) jj q4] env)) []) := by
  have h1 : methodCallPos true (.Call (.Name "super" q1) [] [] q2) env q3 q5 = pure q5 := by
    unfold methodCallPos
    rw [hln]
    rfl
  show (do
    let ov ← attributeBase (.Call (.Name "super" q1) [] [] q2) "__init__" env (eval (.Call (.Name "super" q1) [] [] q2) env)
    standAt q3.atName
    (do
      let (f, first) ← holding [ov] (calleeOf true (.Call (.Name "super" q1) [] [] q2) env ov "__init__")
      let callPos ← methodCallPos true (.Call (.Name "super" q1) [] [] q2) env q3 q5
      callWith callPos f first (backTo q5 (starEach [.Constant (.str msg) jj q4] env)) [])) = _
  rw [h1]
  rfl

theorem pz_init (T : Txt prog K mg nameC C fI) {x t0 : Addr} {v : Value} (X : K.In s.heap) (hlim : s.heap.NoLimit) (G : s.heap.Ns mainGlobals mg) (hb : ∃ mb, s.heap.Ns builtinsNs mb ∧ ∀ y : Str, y ≠ "__name__" → mb y = bootBuiltins y)
    (hx : s.heap.get? x = some (excO C t0)) (hnx : K.lookup x = none) (hroom : A.depth < recursionLimit)
    (hq : ∀ h' tk dx t1, (∀ b o, b ≠ x → s.heap.get? b = some o → h'.get? b = some o) → s.heap.objs.size ≤ dx → dx ≠ x → h'.get? x = some { cls := .ref C, dict := some dx, data := .fields #[.ref t1, .none, .none, .none, .bool false, .none] } →
      h'.Ns1 dx (fun y => if y = "part" then some v else none) → R (.ok (.ret .none)) { s with heap := h', toks := tk }) :
    codeAny (model prog w) A (.call (.ref fI) ⟨[.ref x, v], []⟩) R s := by
  obtain ⟨msg, jj, oc, cl, ccl, od, cdd, cld, doc, pm, an, ct, osl, csl, ccs, cc, cda, vs, file, tf, qual, p1, p2, q1, q2, q3, q4, q5, q6, q7, q8, q9, q10, ho, hcd, hcc, hcda, hvs, hfile, hln⟩ := T.fn
  obtain ⟨nm, q, N, bs, bm, sn, sub, ab, col, dd, k0, k1, k2, k3, k5, hC, hbm⟩ := T.cls
  have hcl : clsIn K C = some { name := nm, bases := bs, mro := .ref C :: bm, ns := N, qualname := q, hasDict := true, slotNames := sn, subclasses := sub, abstract := ab, collection := col, hasDel := false } := by unfold clsIn; rw [hC] <;> rfl
  obtain ⟨mb, hmb, hmb2⟩ := hb
  refine ks_codeAny_call_defAt (fd := ksFn "__init__" qual (iA p1 p2) (iB msg jj q1 q2 q3 q4 q5 q6 q7 q8 q9 q10) iS .none .none doc pm an (.ref cda) ct cc) (body := iB msg jj q1 q2 q3 q4 q5 q6 q7 q8 q9 q10)
    (binds := [("self", .ref x), ("part", v)]) hroom (X _ _ ho) rfl hlim (codeRec_of X hcd) rfl (BindsTo.of_eq (by first | rfl | with_unfolding_all rfl)) ?hc ?hlo (fun h₁ hns hk₁ => ?_) rfl rfl rfl
  case hc =>
    intro y hy
    simp [iS] at hy
    rcases hy with rfl | rfl | rfl | rfl <;> (intro z; cases z)
  case hlo =>
    intro y hy
    simp at hy
    rcases hy with rfl | rfl
    · rfl
    · rfl
  have X₁ : K.In h₁ := X.keeps hk₁
  have hx₁ := hk₁ _ _ hx
  have hC₁ := X₁ _ _ hC
  have hxL : s.heap.objs.size ≠ x := Nat.ne_of_gt (Heap.lt_size hx)
  have IN : InstAt h₁ x (excO C t0) C none := ⟨hx₁, rfl, rfl, trivial⟩
  have hne : x ≠ C := ks_ne X₁ IN hcl
  show wpAt (model prog w) (A.deeper (ksEnv qual iS s.heap.objs.size fI (.ref cda) cc)) _ (execs (_ :: _) (ksEnv qual iS s.heap.objs.size fI (.ref cda) cc)) _ _ _
  refine ks_wpAt_execs_cons (ks_wpAt_Expr_any (ks_wpAt_MethodCall (ks_wpAt_super_base (env := ksEnv qual iS s.heap.objs.size fI (.ref cda) cc) rfl rfl rfl rfl (hk₁ _ _ (X _ _ ho)) rfl rfl rfl (X₁ _ _ hcda) rfl hvs hfile T.top ?_) (he_super hln)))
  refine ks_loadName_global rfl rfl (Calls.loadGlobal_builtin (env := ksEnv qual iS s.heap.objs.size fI (.ref cda) cc) (G.keeps hk₁) T.gS (hmb.keeps hk₁) ((hmb2 "super" (by decide)).trans (by decide +kernel)) ⟨rfl, ?_⟩)
  refine wpAny_loadName_free rfl rfl rfl ⟨_, X₁ _ _ hcc, rfl⟩ ?_
  refine wpAny_loadName_local rfl rfl hns rfl ?_
  refine ks_wpAny_isType_cls hC₁ rfl ⟨rfl, ?_⟩
  refine ks_wpAny_call_super hC₁ rfl hx₁ rfl (fun c e => nomatch e) (looks_mroIn X₁ T.mro) (fun h₂ e₂ k₂ => ?_)
  have X₂ : K.In h₂ := X₁.keeps k₂
  have hm : alongIn K "__init__" (((.ref C :: bm : List Value).dropWhile (· != .ref C)).drop 1) = some (some (.builtin "ValueError.__init__")) := by
    have z := T.sup
    unfold ks_superIn at z
    rw [hcl] at z
    exact z
  have hI : Looks (model prog w) h₂ (isInstance (.ref x) (.type "ValueError")) true := (show InstAt h₂ x (excO C t0) C none from ⟨k₂ _ _ hx₁, rfl, rfl, trivial⟩).type.andThen (looks_subIn X₂ T.sv)
  refine kxs_getMethod kxs_ValueError e₂ (looks_opaque X₂ T.any) (looks_cls X₂ hcl) rfl X₂ hm hI hne rfl ?_
  refine kxs_callWith (i := "ValueError.__init__") (x := x) rfl (evalArgs_plain ?_)
  show wpAny _ _ (spliced ((false, eval (.Constant (.str msg) jj q4) (ksEnv qual iS s.heap.objs.size fI (.ref cda) cc)) :: [])) _ _ _
  refine Calls.spliced_cons (Calls.Constant_str (Calls.spliced_nil ?_))
  have ux : (h₂.push (kxs_mw "ValueError.__init__" x)).get? h₂.objs.size = some (kxs_mw "ValueError.__init__" x) := Heap.get?_push_at rfl rfl
  have k₃ : ∀ b o, h₂.get? b = some o → (h₂.push (kxs_mw "ValueError.__init__" x)).get? b = some o := fun b o e => Heap.get?_push_of_some _ e
  refine ⟨ux, ?_⟩
  refine call_bwV (k₃ _ _ (k₂ _ _ hC₁)) (k₃ _ _ (k₂ _ _ hx₁)) ux (one_size _) (fun h₄ t1 k₄ hx₄ => ?_)
  -- self.part = part
  have all : ∀ b o, b ≠ x → s.heap.get? b = some o → h₄.get? b = some o := fun b o hb e => k₄ b o hb (k₃ _ _ (k₂ _ _ (hk₁ _ _ e)))
  have X₄ : K.In h₄ := fun b o e => k₄ b o (fun z => by rw [z, hnx] at e; cases e) (k₃ _ _ (k₂ _ _ (X₁ _ _ e)))
  have nsL : h₄.Ns s.heap.objs.size (fun y => [(("self" : Str), Value.ref x), ("part", v)].reverse.lookup y) := by
    obtain ⟨oL, es, ep, hoL, r⟩ := hns
    exact ⟨oL, es, ep, k₄ _ _ hxL (k₃ _ _ (k₂ _ _ hoL)), r⟩
  refine wpAt_of_wpAny ?_
  show wpAny _ _ (execs (_ :: []) (ksEnv qual iS s.heap.objs.size fI (.ref cda) cc)) _ _ _
  refine wpAny_execs_cons (plainObj_wpAny_Assign_Attribute ?_)
  refine ldC nsL (v := v) rfl (ldC nsL (v := .ref x) rfl ?_ rfl rfl rfl) rfl rfl rfl
  refine set_plain X₄ (ox := excO C t1) (od := none) ⟨hx₄, rfl, rfl, trivial⟩ T.sa ?_
  refine exc_osa X₄ hx₄ hcl (show refsVE (.ref C :: bm) = true from hbm) rfl T.noN (fun h₅ tk₅ dx k₅ dn dne hx₅ hn₅ => ?_)
  show wpAny _ _ (execs [] _) _ _ _
  have sz : s.heap.objs.size ≤ h₄.objs.size := by
    obtain ⟨oL, _, _, hoL, _⟩ := nsL
    exact Nat.le_of_lt (Heap.lt_size hoL)
  exact wpAny_execs_nil (hq h₅ tk₅ dx t1 (fun b o hb e => k₅ b o hb (all b o hb e)) (Nat.le_trans sz dn) dne hx₅ hn₅)
theorem pz_made (T : Txt prog K mg nameC C fI) {v : Value} (X : K.In s.heap) (hlim : s.heap.NoLimit) (G : s.heap.Ns mainGlobals mg) (hb : ∃ mb, s.heap.Ns builtinsNs mb ∧ ∀ y : Str, y ≠ "__name__" → mb y = bootBuiltins y) (hroom : A.depth + 1 < recursionLimit)
    (hq : ∀ h' tk e d, OwnMade s.heap h' e C d v → R (.ok (.ret (.ref e))) { s with heap := h', toks := tk }) :
    codeAny (model prog w) A (.call (.ref C) ⟨[v], []⟩) R s := by
  obtain ⟨nm, q, N, bs, bm, sn, sub, ab, col, dd, k0, k1, k2, k3, k5, hC, hbm⟩ := T.cls
  obtain ⟨hp, g, dr, tk, os⟩ := s
  have k : ∀ b o, hp.get? b = some o → ((hp.push (kdv_tup [v])).push (excO C hp.objs.size)).get? b = some o := fun b o e => Heap.get?_push_of_some _ (Heap.get?_push_of_some _ e)
  have hget : ((hp.push (kdv_tup [v])).push (excO C hp.objs.size)).get? (hp.objs.size + 1) = some (excO C hp.objs.size) := by heap_get
  have hnx : K.lookup (hp.objs.size + 1) = none := by
    cases e : K.lookup (hp.objs.size + 1) with
    | none => rfl
    | some o =>
      have z : hp.get? (hp.objs.size + 1) = some o := X _ _ e
      exact absurd (Nat.lt_of_succ_lt (Heap.lt_size z)) (Nat.lt_irrefl _)
  obtain ⟨mb, hmb, hmb2⟩ := hb
  refine call_own F.excBase_ValueError (fun X => refsVE_contains X bm hbm) (X _ _ hC) (looks_findIn X T.iC) (fun self => bind_fn X self T.tC) (one_size v) ?_
  refine pz_init (s := ⟨(hp.push (kdv_tup [v])).push (excO C hp.objs.size), g, dr, tk, os⟩) T (X.keeps k) (hlim.keeps k) (G.keeps k) ⟨mb, hmb.keeps k, hmb2⟩ hget hnx ?_ fun h' tk' dx t1 k' dn dne hx hns => ?_
  · show A.depth + 1 < recursionLimit
    exact hroom
  · have old : ∀ b o, hp.get? b = some o → h'.get? b = some o := fun b o e => k' b o (Nat.ne_of_lt (Nat.lt_succ_of_lt (Heap.lt_size e))) (k b o e)
    have z : hp.objs.size + 1 + 1 ≤ dx := by
      first
        | (simpa only [Heap.size_push] using dn)
        | exact dn
        | (have q := dn; rw [Heap.size_push, Heap.size_push] at q; exact q)
    exact ⟨rfl, hq h' tk' (hp.objs.size + 1) dx ⟨old, Nat.le_succ _, ⟨_, _, hx, rfl, rfl, rfl, rfl⟩, Nat.le_trans (Nat.le_trans (Nat.le_succ _) (Nat.le_succ _)) z, dne, hns⟩⟩
end
end PZ
end PySem
namespace Un
open PySem L2 PySem.Spec PyProof.Rows
theorem relO_part {v : V} {v' : Value} (r : RelV v v') (f : Str) : RelO (List.lookup f [(("part" : Str), v)]) (if f = "part" then some v' else none) := by
  by_cases hw : f = "part"
  · subst hw
    rw [if_pos rfl]
    have q : List.lookup ("part" : Str) [(("part" : Str), v)] = some v := by simp [List.lookup]
    rw [q]
    exact r
  · rw [if_neg hw]
    have qw : (f == ("part" : Str)) = false := by simpa using hw
    have q2 : List.lookup f [(("part" : Str), v)] = none := by simp [List.lookup, qw]
    rw [q2]
    trivial
section
variable {X : Cx} {C fI : Addr} {nameC : Str}
/-- C(e) of an error's class -/
def tMkPart (C : Addr) (ta : TA) : L2.St → Hp → XK → Prop := fun σ H Q => ta σ H fun vs H1 => ∃ v, vs = [v] ∧ ∀ d, H1 d = none → Q (.ref C) (some d) (upd H1 d (.xd [(("part" : Str), v)]))
theorem pmk_part {a : Expr} {ta : TA} {p pos : Pos} {k : Nat} (T : PySem.PZ.Txt X.prog X.K X.mg nameC C fI) (hr : Room k X.A) (ha : PA X [a] ta) (hg : Gl X nameC := by rfl) (hd : (nameC == ("__debug__" : Str)) = false := by decide)
    (he : starEach (a :: []) X.env = (false, eval a X.env) :: starEach [] X.env := by rfl) (hpl : (backTo pos (starEach [] X.env)).any (·.1) = false := by rfl) :
    PMk X (.Call (.Name nameC p) [a] [] pos) (tMkPart C ta) := by
  intro pins s σ H Q I h
  refine wpAny_Call_Name_kw (ld_glob I hg T.gC ?_ hd)
  refine PySem.W.callWith_K (h₀ := X.base) I.ok.mod.kin T.kC (thn (ha.run pos pins s σ H _ I h) fun us s1 hh => ?_) he hpl
  obtain ⟨vs, H1, I1, r1, v, ev, q1⟩ := hh
  subst ev
  refine ⟨I1.kIn, ?_⟩
  cases r1 with
  | cons rv rn =>
    rename_i v' us'
    cases rn
    show wpAny _ _ (call (.ref C) [v']) _ _ _
    have hlim := I1.nolimit
    have hgl := I1.mod.glob.keeps I1.bk
    obtain ⟨mb, hb1, hb2⟩ := I1.mod.blt
    have hbl := hb1.keeps I1.bk
    obtain ⟨hp, g, dr, tk, os⟩ := s1
    refine wpAny_call (PySem.PZ.pz_made T I1.kIn hlim hgl ⟨mb, hbl, hb2⟩ (by have := hr.dp; omega) fun h' tk' e d M => ?_)
    show MkP X pins σ Q (.ref e) ⟨h', g, dr, tk', os⟩
    obtain ⟨oe, fv, hoe, hc, hd, hdat, h1⟩ := M.obj
    have hns := M.ns
    obtain ⟨G', g1, g2⟩ := restrict h' fun b => decide (b ≠ e)
    have gk : ∀ b, b ≠ e → G'.get? b = h'.get? b := fun b hb => g1 b (decide_eq_true hb)
    have ge : G'.get? e = none := g2 e (by simp)
    have old : ∀ b o, hp.get? b = some o → G'.get? b = some o := fun b o q => (gk b (Nat.ne_of_lt (Nat.lt_of_lt_of_le (Heap.lt_size q) M.new))).trans (M.keep b o q)
    have ob : ObjOk X.prog X.w (upd H1 d (.xd [(("part" : Str), v)])) G' d (.xd [(("part" : Str), v)]) :=
      ⟨_, hns.at (fun o q => (gk d M.dne).trans q), fun f => relO_part rv f⟩
    have J : Inv X pins σ (upd H1 d (.xd [(("part" : Str), v)])) ⟨G', g, dr, tk', os⟩ := I1.laid (t' := tk') old M.dbig ob
    refine ⟨e, oe, fv, ⟨G', g, dr, tk', os⟩, _, .ref C, some d, rfl, J, fun b o q => ?_, ge, hoe, ⟨hc, hd⟩, hdat, h1, ?_, rfl, I1.bare, raises_own T.exC T.tyC, q1 d (I1.hok.fresh M.dbig)⟩
    · by_cases hb : b = e
      · have q' : G'.get? b = some o := q
        rw [hb, ge] at q'; cases q'
      · exact (gk b hb).symm.trans q
    · rw [upd_ne (Ne.symm M.dne)]
      exact I1.hok.fresh M.new
/-- raise C(e) -/
def tRaiseP (C : Addr) (W : WX) (ta : TA) : TS := fun _ σ H => tMkPart C ta σ H fun cls d H' => W cls d σ H'
theorem ps_raiseP {a : Expr} {ta : TA} {W : WX} {p pos pos2 : Pos} {k : Nat} (hc : X.calm = true) (T : PySem.PZ.Txt X.prog X.K X.mg nameC C fI) (hr : Room k X.A) (tk : Takes X W) (ha : PA X [a] ta) (hg : Gl X nameC := by rfl) (hd : (nameC == ("__debug__" : Str)) = false := by decide)
    (he : starEach (a :: []) X.env = (false, eval a X.env) :: starEach [] X.env := by rfl) (hpl : (backTo pos (starEach [] X.env)).any (·.1) = false := by rfl) :
    PS X (.Raise (some (.Call (.Name nameC p) [a] [] pos)) none pos2) (tRaiseP C W ta) := ps_raise hc tk (pmk_part T hr ha hg hd he hpl)
/-- e.part, e the exception that the suite holds (at a; its class cls, its dict d) -/
def tByPart (C : Addr) (a : Addr) (cls : Value) (d : Option Addr) (te : TE) : TE := fun σ H Q => te σ H fun x H1 => x = .ref a ∧ cls = .ref C ∧ ∃ (dd : Addr) (v : V), d = some dd ∧ H1 dd = some (.xd [(("part" : Str), v)]) ∧ Q v H1
theorem pe_byPart {a : Addr} {oe : Obj} {cls : Value} {d : Option Addr} {pn : List (Addr × Obj)} {e : Expr} {te : TE} {pos : Pos} (T : PySem.PZ.Txt X.prog X.K X.mg nameC C fI) (hz : Zc cls d oe) (hf : ∃ vs, oe.data = .fields vs) (he : PE (X.suite a ((a, oe) :: pn)) e te)
    (hb : attributeBase e "part" X.env (eval e X.env) = eval e X.env := by rfl) :
    PE (X.suite a ((a, oe) :: pn)) (.Attribute e "part" pos) (tByPart C a cls d te) := by
  refine ⟨fun pins s σ H Q I h => ?_⟩
  refine attr_of hb (thn (he.run pins s σ H _ I h) fun u s1 hh => ?_)
  obtain ⟨x, H1, I1, rx, ex, ec, dd, v, ed, ea, q⟩ := hh
  subst ex
  obtain rfl : u = Value.ref a := rx
  subst ec
  subst ed
  obtain ⟨ha, _⟩ := I1.pin (a, oe) (List.mem_append_left _ List.mem_cons_self)
  obtain ⟨vs, hd⟩ := hf
  have hx : ObjOk X.prog X.w H1 s1.heap dd (.xd [(("part" : Str), v)]) := I1.hok dd _ ea
  obtain ⟨mA, hns, hr⟩ := hx
  obtain ⟨od, ho, hl⟩ := lookIn_ns hns
  have l : List.lookup ("part" : Str) [(("part" : Str), v)] = some v := by simp [List.lookup]
  obtain ⟨u, hu, ru⟩ := RelO.some_of (v := v) (o := mA "part") (by rw [← l]; exact hr "part")
  have J : PySem.W.InstAt s1.heap a oe C (some od) := ⟨ha, hz.1, by unfold PySem.W.notCls; rw [hd] <;> rfl, by rw [hz.2]; exact ho⟩
  exact HandSPX.exc_get I1.kIn J T.ga T.gg T.exC (PySem.W.findObj_own T.hdC T.noN rfl (by rw [hl, hu])) (handed_of ru) ⟨v, H1, I1.tok _, ru, q⟩
end
/-- C(..) in a try: what it raises is the try's -/
theorem pe_makeS {X : Cx} {x : Str} {q pos : Pos} {e : Expr} {es : List Expr} {t : TA} {C f : Addr} {fd : FuncData} {ps : List Str} {sp : Sp} {k : Nat} {CX : CXT} {E : L2.St → XK} (M : Mk X.K C f) (F : FnOk X.prog X.w X.K X.mg X.base CX k f fd ps sp) (hr : Room (k + 1) X.A) (hg : Gl X x) (hm : X.mg x = some (.ref C)) (hb : Binds X.K fd ps [])
    (hx : ∀ σ, PassesAt CX X σ (E σ)) (ha : PA X (e :: es) t) (hd : (x == ("__debug__" : Str)) = false := by decide)
    (he : starEach (e :: es) X.env = (false, eval e X.env) :: starEach es X.env := by rfl) (hpl : (backTo pos (starEach es X.env)).any (·.1) = false := by rfl) : PE X (.Call (.Name x q) (e :: es) [] pos) (tMakeS C sp E t) := by
  refine ⟨fun pins s σ H Q I h => ?_⟩
  refine wpAny_Call_Name_kw (ld_glob I hg hm ?_ hd)
  refine PySem.W.callWith_K (h₀ := X.base) I.ok.mod.kin M.kp (thn (ha.run pos pins s σ H _ I h) fun us s1 ⟨vs, H1, I1, r, q⟩ => ⟨I1.kIn, ?_⟩) he hpl
  have hq := q (s1.heap.objs.size + 1) s1.heap.objs.size (I1.hok.fresh (Nat.le_succ _)) (I1.hok.fresh (Nat.le_refl _)) (Nat.ne_of_lt (Nat.lt_succ_self _))
  have I2 := Inv.made (C := C) I1
  have r2 : Vals (V.ref (s1.heap.objs.size + 1) :: vs) (Value.ref (s1.heap.objs.size + 1) :: us) := .cons rfl r
  have hl : (Value.ref (s1.heap.objs.size + 1) :: us).length = ps.length := by
    have e := r2.length
    rw [F.len _ _ _ _ hq] at e
    exact e.symm
  have r3 : Vals (V.ref (s1.heap.objs.size + 1) :: vs) ((Value.ref (s1.heap.objs.size + 1) :: us) ++ []) := by rw [List.append_nil]; exact r2
  have hl' : ((Value.ref (s1.heap.objs.size + 1) :: us) ++ []).length = ps.length := by rw [List.append_nil]; exact hl
  refine wpAny_call (make_map (f := f) I1.kIn M.makes M.init (beq_iff_eq.mp M.fn) (codeAny_mono (F.run _ X.stack _ _ ⟨Value.ref (s1.heap.objs.size + 1) :: us, []⟩ ((Value.ref (s1.heap.objs.size + 1) :: us) ++ []) _ _ (E σ) (hr.make C us [])
    (I2.env0.make C us []) (hb _ (Value.ref (s1.heap.objs.size + 1) :: us) I2.kIn hl') r3 hq) fun r s' hq' => ?_))
  cases r with
  | error e => exact hx σ pins _ _ e s' I2 hq'
  | ok fl =>
    cases fl with
    | ret u =>
      obtain ⟨v, H', I3, rv, ev, q3⟩ := I2.after hq'
      subst ev
      exact ⟨rv, ⟨V.ref (s1.heap.objs.size + 1), H', I3, rfl, q3⟩⟩
    | next => exact False.elim hq'
    | brk => exact False.elim hq'
    | cont => exact False.elim hq'
end Un
/-! What the small checks promise. -/
namespace Un
open PySem L2 PySem.Spec PyProof.Rows
def isI : PyData → Bool
  | .int _ => true
  | _ => false
def btw (d : PyData) (lo hi : Int) : Bool := match d with
  | .int i => decide (lo ≤ i) && decide (i ≤ hi)
  | _ => false
def idx (d : PyData) (m : Int) : Bool := btw d 0 (m - 1)
def lotFrom (last m : Int) : List PyData → Bool
  | [] => true
  | d :: r => match d with
    | .int i => idx d m && decide (last < i) && lotFrom i m r
    | _ => false
def isLot (d : PyData) (m : Int) : Bool := match d with
  | .tuple ds => lotFrom (-1) m ds
  | _ => false
def sp_is_integer : Sp := fun vs H Q _ => ∃ v d, vs = [v] ∧ Rp H d v ∧ ∀ H', Same H H' → Q (.bl (isI d)) H'
def sp_is_between : Sp := fun vs H Q _ => ∃ v d lo hi, vs = [v, .int lo, .int hi] ∧ Rp H d v ∧ ∀ H', Same H H' → Q (.bl (btw d lo hi)) H'
def sp_is_index : Sp := fun vs H Q _ => ∃ v d m, vs = [v, .int m] ∧ Rp H d v ∧ ∀ H', Same H H' → Q (.bl (idx d m)) H'
def sp_is_lot : Sp := fun vs H Q _ => ∃ v d m, vs = [v, .int m] ∧ Rp H d v ∧ ∀ H', Same H H' → Q (.bl (isLot d m)) H'
/-- a tuple of numbers below 1000 -/
def sp_mask_of : Sp := fun vs H Q _ => ∃ a ns, vs = [.ref a] ∧ H a = some (.tup (ns.map fun n : Nat => V.int n)) ∧ (∀ n ∈ ns, n ≤ 1000) ∧ ∀ H', Same H H' → Q (.int (mk ns)) H'
end Un
namespace Un
open PySem L2 PySem.Spec PyProof.Rows
variable (K : PySem.W.Frag)
def t_is_integer : TS :=
  (tRet (tAndV (tCB rIsD (tCons (tVar 0) (tCons (tC (.ty "int")) tNil))) (tNotV (tCB rIsD (tCons (tVar 0) (tCons (tC (.ty "bool")) tNil))))))
def t_is_between : TS :=
  (tRet (tAndV (tCall sp_is_integer [] E0 (tCons (tVar 0) tNil)) (tChain rLeI rLeI (tVar 1) (tVar 0) (tVar 2))))
def t_is_index : TS :=
  (tRet (tCall sp_is_between [] E0 (tCons (tVar 0) (tCons (tC (.int 0)) (tCons (tOp rSubI (tVar 1) (tC (.int 1))) tNil)))))
def t_is_lot : TS :=
  (tSeq (tIfS (tNot (tB (tCB rIsD (tCons (tVar 0) (tCons (tC (.ty "tuple")) tNil))))) (tRet (tC (.bl false))) tNext)
    (tSeq (tAsg (tUn rNeg (tC (.int 1))) (gName 2))
    (tSeq (tFor (iTup K (tVar 0)) (gName 3)
    (tSeq (tIfS (tOr (tNot (tB (tCall sp_is_index [] E0 (tCons (tVar 3) (tCons (tVar 1) tNil))))) (tTest (tOp rLeI (tVar 3) (tVar 2)))) (tRet (tC (.bl false))) tNext)
    (tAsg (tVar 3) (gName 2))))
    (tRet (tC (.bl true))))))
def t_mask_of : TS :=
  (tSeq (tAsg (tC (.int 0)) (gName 1))
    (tSeq (tFor (iTup K (tVar 0)) (gName 2)
    (tAsg (tOp rOrI (tVar 1) (tOp rShlI (tC (.int 1)) (tVar 2))) (gName 1)))
    (tRet (tVar 1))))
end Un
namespace Un
open PySem L2 PySem.Spec PyProof.Rows
local macro_rules | `(tactic| tm_at "s") => `(tactic| with_reducible first
  | refine s_seq ?_ | (refine s_asg ?_; dsimp only [List.set]) | refine s_next ?_ | refine s_ret ?_ | refine s_drop ?_ | refine s_ifs ?_ | refine s_brk ?_ | refine s_cont ?_ | refine s_retN ?_
  | refine s_var rfl ?_ | refine s_c ?_ | refine s_op ?_ | refine s_cons ?_ | refine s_nil ?_ | refine s_call ?_ | refine s_CB ?_ | refine s_un ?_
  | refine s_test ?_ | refine s_tB ?_ | refine s_k ?_ | refine s_not ?_ | refine s_and ?_ | refine s_or ?_ | refine s_notV ?_ | refine s_andV ?_ | refine s_orV ?_ | refine s_if ?_
  | refine s_add ?_ | refine s_sub ?_ | refine s_lt ?_ | refine s_le ?_ | refine s_gt ?_ | refine s_ge ?_ | refine s_eqI ?_ | refine s_neI ?_ | refine s_band ?_ | refine s_bor ?_ | refine s_neg ?_ | refine s_inv ?_
  | refine s_isN ?_ | refine s_notN ?_ | refine s_int1 ?_ | refine s_abs ?_ | refine s_min2 ?_ | refine s_max2 ?_
  | refine s_tup ?_ | refine s_lst ?_ | refine s_chain ?_ | refine s_isD (by decide) (by assumption) ?_)
local macro_rules | `(tactic| tm_at "go") => `(tactic| repeat' (tm_at "s"))
variable {K : PySem.W.Frag}
theorem pure_is_integer (vs : List V) (H : Hp) (Q : VK) (E : XK) (h : sp_is_integer vs H Q E) : t_is_integer { nx := fun _ H' => Q .non H', rt := Q } (start ["thing"] vs) H := by
  obtain ⟨v, d, rfl, hd, k⟩ := h
  show t_is_integer _ [some v] H
  unfold t_is_integer
  tm_at "go"
  refine s_ite (fun h1 => ?_) fun h1 => ?_
  · tm_at "go"
    have e : (!isaD "bool" d) = isI d := by rw [isa_int] at h1; rw [isa_bool]; cases d <;> first | rfl | cases h1
    rw [e]
    exact k _ (Same.refl _)
  · have e : false = isI d := by rw [isa_int] at h1; cases d <;> first | rfl | cases h1
    rw [e]
    exact k _ (Same.refl _)
theorem pure_is_between (vs : List V) (H : Hp) (Q : VK) (E : XK) (h : sp_is_between vs H Q E) : t_is_between { nx := fun _ H' => Q .non H', rt := Q } (start ["thing", "least", "most"] vs) H := by
  obtain ⟨v, d, lo, hi, rfl, hd, k⟩ := h
  show t_is_between _ [some v, some (.int lo), some (.int hi)] H
  unfold t_is_between
  tm_at "go"
  refine ⟨v, d, rfl, hd, fun H1 e1 => ?_⟩
  tm_at "go"
  cases d with
  | int i =>
    rw [rp_int.mp hd]
    refine iteT ?_
    tm_at "go"
    refine s_ite (fun h1 => ?_) fun h1 => ?_
    · tm_at "go"
      have e : decide (i ≤ hi) = btw (.int i) lo hi := by
        show _ = (decide (lo ≤ i) && decide (i ≤ hi))
        rw [h1, Bool.true_and]
      rw [e]
      exact k _ e1
    · have e : false = btw (.int i) lo hi := by
        show _ = (decide (lo ≤ i) && decide (i ≤ hi))
        rw [h1, Bool.false_and]
      rw [e]
      exact k _ e1
  | _ => exact iteF (k _ e1)
theorem pure_is_index (vs : List V) (H : Hp) (Q : VK) (E : XK) (h : sp_is_index vs H Q E) : t_is_index { nx := fun _ H' => Q .non H', rt := Q } (start ["thing", "many"] vs) H := by
  obtain ⟨v, d, m, rfl, hd, k⟩ := h
  show t_is_index _ [some v, some (.int m)] H
  unfold t_is_index
  tm_at "go"
  exact ⟨v, d, 0, m - 1, rfl, hd, fun H1 e1 => k _ e1⟩
theorem lot_step {last m : Int} {d : PyData} {r : List PyData} : lotFrom last m (d :: r) = true → ∃ i : Int, d = .int i ∧ idx d m = true ∧ last < i ∧ lotFrom i m r = true := by
  intro h
  cases d with
  | int i =>
    simp only [lotFrom, Bool.and_eq_true, decide_eq_true_eq] at h
    exact ⟨i, rfl, h.1.1, h.1.2, h.2⟩
  | _ => simp [lotFrom] at h
theorem idx_int {d : PyData} {m : Int} (h : idx d m = true) : ∃ i : Int, d = .int i ∧ 0 ≤ i ∧ i < m := by
  cases d with
  | int i =>
    simp only [idx, btw, Bool.and_eq_true, decide_eq_true_eq] at h
    exact ⟨i, rfl, h.1, by omega⟩
  | _ => simp [idx, btw] at h
theorem drop_at {α : Type} {l : List α} {i : Nat} {x : α} (h : l[i]? = some x) : l.drop i = x :: l.drop (i + 1) := by
  obtain ⟨h1, h2⟩ := List.getElem?_eq_some_iff.mp h
  rw [List.drop_eq_getElem_cons h1, h2]
theorem pure_is_lot (vs : List V) (H : Hp) (Q : VK) (E : XK) (h : sp_is_lot vs H Q E) : t_is_lot K { nx := fun _ H' => Q .non H', rt := Q } (start ["thing", "many", "last", "item"] vs) H := by
  obtain ⟨v, d, m, rfl, hd, k⟩ := h
  show t_is_lot K _ [some v, some (.int m), none, none] H
  unfold t_is_lot
  tm_at "go"
  cases d with
  | tuple ds =>
    obtain ⟨a, xs, rfl, ha, hr⟩ := rp_tup.mp hd
    refine iteF ?_
    tm_at "go"
    refine s_forT (fun i σ H1 => ∃ (z : Option V) (last : Int), σ = [some (.ref a), some (.int m), some (.int last), z] ∧ Same H H1 ∧ lotFrom (-1) m ds = lotFrom last m (ds.drop i))
      ha ⟨none, -1, rfl, Same.refl _, rfl⟩ (fun i σ H1 ⟨_, _, _, e, _⟩ => e _ _ ha) ?_ ?_ fun _ q => ⟨_, rfl, q⟩
    · rintro i x σ H1 hi ⟨z, last, rfl, e1, he⟩
      obtain ⟨d, hd1, hd2⟩ := hr.get hi
      have hdr := drop_at hd1
      show tSeq _ _ _ [some (.ref a), some (.int m), some (.int last), some x] H1
      tm_at "go"
      refine ⟨x, d, m, rfl, hd2.up e1, fun H2 e2 => ?_⟩
      tm_at "go"
      refine s_iten (fun h1 => ?_) fun h1 => ?_
      · tm_at "go"
        have e : isLot (.tuple ds) m = false := by
          show lotFrom (-1) m ds = false
          rw [he, hdr]
          cases q : lotFrom last m (d :: ds.drop (i + 1)) with
          | false => rfl
          | true =>
            obtain ⟨_, _, z, _⟩ := lot_step q
            rw [h1] at z
            cases z
        have := k H2 (e1.trans e2)
        rw [e] at this
        exact this
      · obtain ⟨n, rfl, hn0, hn1⟩ := idx_int h1
        rw [rp_int.mp hd2]
        tm_at "go"
        refine s_ited (fun h2 => ?_) fun h2 => ?_
        · tm_at "go"
          have e : isLot (.tuple ds) m = false := by
            show lotFrom (-1) m ds = false
            rw [he, hdr]
            show (idx (.int n) m && decide (last < n) && _) = false
            rw [decide_eq_false (by omega), Bool.and_false, Bool.false_and]
          have := k H2 (e1.trans e2)
          rw [e] at this
          exact this
        · tm_at "go"
          refine ⟨some (.int n), n, rfl, e1.trans e2, ?_⟩
          rw [he, hdr]
          show (idx (.int n) m && decide (last < n) && _) = _
          rw [h1, decide_eq_true (by omega)]
          rfl
    · rintro σ H1 ⟨z, last, rfl, e1, he⟩
      tm_at "go"
      have e : isLot (.tuple ds) m = true := by
        show lotFrom (-1) m ds = true
        rw [he, hr.length, List.drop_length]
        rfl
      have := k H1 e1
      rw [e] at this
      exact this
  | _ =>
    refine iteT ?_
    tm_at "go"
    exact k _ (Same.refl _)
theorem mkFrom_take {ns : List Nat} {i n : Nat} (h : ns[i]? = some n) : mk (ns.take (i + 1)) = mk (ns.take i) ||| 1 <<< n := by
  unfold mk mkFrom
  rw [List.take_succ, List.foldl_append, h]
  rfl
theorem shl_ok (n : Nat) (h : n ≤ 1000) : CPow 1 (n : Int) := ⟨by omega, by omega, by decide⟩
theorem pure_mask_of (vs : List V) (H : Hp) (Q : VK) (E : XK) (h : sp_mask_of vs H Q E) : t_mask_of K { nx := fun _ H' => Q .non H', rt := Q } (start ["lot", "mask", "item"] vs) H := by
  obtain ⟨a, ns, rfl, ha, hb, k⟩ := h
  show t_mask_of K _ [some (.ref a), none, none] H
  unfold t_mask_of
  tm_at "go"
  refine s_forT (fun i σ H1 => ∃ z : Option V, σ = [some (.ref a), some (.int (mk (ns.take i))), z] ∧ Same H H1)
    ha ⟨none, rfl, Same.refl _⟩ (fun i σ H1 ⟨_, _, e⟩ => e _ _ ha) ?_ ?_ fun _ q => ⟨_, rfl, q⟩
  · rintro i x σ H1 hi ⟨z, rfl, e1⟩
    rw [List.getElem?_map] at hi
    obtain ⟨n, hn, rfl⟩ := Option.map_eq_some_iff.mp hi
    show tAsg _ _ _ [some (.ref a), some (.int (mk (ns.take i))), some (.int n)] H1
    tm_at "go"
    refine s_shl (shl_ok n (hb n (List.mem_of_getElem? hn))) ?_
    tm_at "go"
    rw [shl_nat, bor_nat, ← mkFrom_take hn]
    exact ⟨_, rfl, e1⟩
  · rintro σ H1 ⟨z, rfl, e1⟩
    tm_at "go"
    rw [List.length_map, List.take_length]
    exact k _ e1
end Un
/-! Recipes: what the checks and made_from promise. -/
namespace Un
open PySem L2 PySem.Spec PyProof.Rows
theorem lotFrom_iff : ∀ (ds : List PyData) (last m : Int), -1 ≤ last → (lotFrom last m ds = true ↔ ∃ ns : List Nat, ds = dN ns ∧ ns.Pairwise (· < ·) ∧ (∀ n ∈ ns, last < (n : Int)) ∧ ∀ n ∈ ns, (n : Int) < m)
  | [], last, m, _ => by
    constructor
    · intro _
      exact ⟨[], rfl, .nil, fun n h => (nomatch h), fun n h => (nomatch h)⟩
    · intro _
      rfl
  | d :: ds, last, m, hl => by
    constructor
    · intro h
      obtain ⟨i, rfl, h1, h2, h3⟩ := lot_step h
      obtain ⟨j, e, h4, h5⟩ := idx_int h1
      cases e
      obtain ⟨k, rfl⟩ : ∃ k : Nat, i = (k : Int) := ⟨i.toNat, (Int.toNat_of_nonneg h4).symm⟩
      obtain ⟨ns, rfl, p1, p2, p3⟩ := (lotFrom_iff ds k m (by omega)).mp h3
      refine ⟨k :: ns, rfl, List.pairwise_cons.mpr ⟨fun n hn => ?_, p1⟩, fun n hn => ?_, fun n hn => ?_⟩
      · have := p2 n hn
        omega
      · rcases List.mem_cons.mp hn with rfl | hn
        · exact h2
        · have := p2 n hn
          omega
      · rcases List.mem_cons.mp hn with rfl | hn
        · exact h5
        · exact p3 n hn
    · rintro ⟨ns, e, p1, p2, p3⟩
      cases ns with
      | nil => cases e
      | cons k ns =>
        obtain ⟨rfl, rfl⟩ : d = .int (k : Int) ∧ ds = dN ns := by
          have e' : d :: ds = PyData.int (k : Int) :: dN ns := e
          exact List.cons.inj e'
        obtain ⟨q1, q2⟩ := List.pairwise_cons.mp p1
        have h3 := (lotFrom_iff (dN ns) k m (by omega)).mpr ⟨ns, rfl, q2, fun n hn => by have := q1 n hn; omega, fun n hn => p3 n (List.mem_cons_of_mem _ hn)⟩
        have a1 := p2 k (List.mem_cons_self ..)
        have a2 := p3 k (List.mem_cons_self ..)
        simp only [lotFrom, idx, btw, h3, Bool.and_true, Bool.and_eq_true, decide_eq_true_eq]
        omega
theorem isLot_iff {d : PyData} {m : Int} : isLot d m = true ↔ ∃ ns, d = lotD ns ∧ LotN m ns := by
  cases d with
  | tuple ds =>
    show lotFrom (-1) m ds = true ↔ _
    rw [lotFrom_iff ds (-1) m (by omega)]
    constructor
    · rintro ⟨ns, rfl, p1, _, p3⟩
      exact ⟨ns, rfl, p1, p3⟩
    · rintro ⟨ns, e, p1, p3⟩
      cases e
      exact ⟨ns, rfl, p1, fun n _ => by omega, p3⟩
  | _ =>
    constructor
    · intro h
      cases h
    · rintro ⟨ns, e, _⟩
      cases e
theorem idx_iff {d : PyData} {m : Int} : idx d m = true ↔ ∃ k : Nat, d = .int (k : Int) ∧ (k : Int) < m := by
  constructor
  · intro h
    obtain ⟨i, rfl, h1, h2⟩ := idx_int h
    exact ⟨i.toNat, by rw [Int.toNat_of_nonneg h1], by omega⟩
  · rintro ⟨k, rfl, h⟩
    simp only [idx, btw, Bool.and_eq_true, decide_eq_true_eq]
    omega
/-- a recipe: what it uses, what it makes -/
abbrev Rec := List Nat × Nat
def recD (r : Rec) : PyData := .tuple [lotD r.1, .int (r.2 : Int)]
def recsD (rs : List Rec) : PyData := .tuple (rs.map recD)
theorem dN_inj : ∀ {a b : List Nat}, dN a = dN b → a = b
  | [], [], _ => rfl
  | [], _ :: _, h => by cases h
  | _ :: _, [], h => by cases h
  | x :: a, y :: b, h => by
    have h' : PyData.int (x : Int) :: dN a = PyData.int (y : Int) :: dN b := h
    injection h' with h1 h2
    injection h1 with h1
    rw [dN_inj h2, show x = y by omega]
theorem lotD_inj {a b : List Nat} (h : lotD a = lotD b) : a = b := by
  unfold lotD at h
  injection h with h
  exact dN_inj h
theorem recD_eq {l t : PyData} {r : Rec} (h : PyData.tuple [l, t] = recD r) : l = lotD r.1 ∧ t = .int (r.2 : Int) := by
  unfold recD at h
  injection h with h
  injection h with a1 a2
  injection a2 with a2 _
  exact ⟨a1, a2⟩
def RecN (m : Int) (gv : List Nat) (r : Rec) : Prop := r.1 ≠ [] ∧ LotN m r.1 ∧ (r.2 : Int) < m ∧ r.2 ∉ r.1 ∧ r.2 ∉ gv
def RecOk (m : Int) (gv : List Nat) (d : PyData) : Prop := ∃ r, d = recD r ∧ RecN m gv r
def RecsOk (m : Int) (gv : List Nat) (d : PyData) : Prop := ∃ rs : List Rec, d = recsD rs ∧ rs.length ≤ 40 ∧ ∀ r ∈ rs, RecN m gv r
def sp_is_recipe : Sp := fun vs H Q _ => ∃ v d m g gv, vs = [.int m, .ref g, v] ∧ H g = some (.tup (vN gv)) ∧ Rp H d v ∧ ∀ H', Same H H' → Q (.bl (decP (RecOk m gv d))) H'
/-- things of some length -/
def lenD : PyData → Nat
  | .tuple ds => ds.length
  | _ => 0
def sp_are_recipes : Sp := fun vs H Q _ => ∃ v d m g gv, vs = [.int m, .ref g, v] ∧ H g = some (.tup (vN gv)) ∧ Rp H d v ∧ lenD d ≤ 1000 ∧ ∀ H', Same H H' → Q (.bl (decP (RecsOk m gv d))) H'
/-- what can be made -/
def Closed (rs : List Rec) (L B S : Nat) : Prop := ∀ k r, rs[k]? = some r → L.testBit r.2 = true → B.testBit k = false → (∀ n ∈ r.1, S.testBit n = true) → S.testBit r.2 = true
structure IsMade (rs : List Rec) (T L B R : Nat) : Prop where
  base : Sub T R
  closed : Closed rs L B R
  least : ∀ S, Sub T S → Closed rs L B S → Sub R S
theorem Sub.antisymm {m n : Nat} (h : Sub m n) (h' : Sub n m) : m = n := Nat.eq_of_testBit_eq fun i => by
  cases e : m.testBit i with
  | true => exact (h i e).symm
  | false =>
    cases e2 : n.testBit i with
    | false => rfl
    | true => rw [h' i e2] at e; cases e
theorem IsMade.uniq {rs : List Rec} {T L B R R' : Nat} (h : IsMade rs T L B R) (h' : IsMade rs T L B R') : R = R' := Sub.antisymm (h.least _ h'.base h'.closed) (h'.least _ h.base h.closed)
def sp_made_from : Sp := fun vs H Q _ => ∃ (a : Addr) (rs : List Rec) (T L B : Nat), vs = [.ref a, .int T, .int L, .int B] ∧ Rp H (recsD rs) (.ref a) ∧ rs.length ≤ 1000 ∧ (∀ r ∈ rs, r.2 ≤ 1000 ∧ ∀ n ∈ r.1, n ≤ 1000) ∧ ∀ (R : Nat) H', IsMade rs T L B R → Same H H' → Q (.int R) H'
end Un
namespace Un
open PySem L2 PySem.Spec PyProof.Rows
/-- is_recipe: 0 many, 1 given, 2 thing -/
def t_is_recipe : TS :=
  (tSeq (tIfS (tOr (tNot (tB (tCB rIsD (tCons (tVar 2) (tCons (tC (.ty "tuple")) tNil))))) (tOr (tTest (tOp rNe (tCB rLenF (tCons (tVar 2) tNil)) (tC (.int 2)))) (tOr (tNot (tB (tCall sp_is_lot [] E0 (tCons (tOp rIxF (tVar 2) (tC (.int 0))) (tCons (tVar 0) tNil))))) (tTest (tOp rEq (tCB rLenF (tCons (tOp rIxF (tVar 2) (tC (.int 0))) tNil)) (tC (.int 0))))))) (tRet (tC (.bl false))) tNext)
    (tRet (tAndV (tCall sp_is_index [] E0 (tCons (tOp rIxF (tVar 2) (tC (.int 1))) (tCons (tVar 0) tNil))) (tAndV (tOp (rInF true) (tOp rIxF (tVar 2) (tC (.int 1))) (tOp rIxF (tVar 2) (tC (.int 0)))) (tOp (rInF true) (tOp rIxF (tVar 2) (tC (.int 1))) (tVar 1))))))
/-- are_recipes: 0 many, 1 given, 2 thing, 3 recipe -/
def t_are_recipes (K : PySem.W.Frag) : TS :=
  (tSeq (tIfS (tOr (tNot (tB (tCB rIsD (tCons (tVar 2) (tCons (tC (.ty "tuple")) tNil))))) (tTest (tOp rGtI (tCB rLenF (tCons (tVar 2) tNil)) (tC (.int 40))))) (tRet (tC (.bl false))) tNext)
    (tRet (tCB rAllF (tCons (tLc (iTup K (tVar 2)) (gName 3) tYes (tCall sp_is_recipe [] E0 (tCons (tVar 0) (tCons (tVar 1) (tCons (tVar 3) tNil)))) [3]) tNil))))
/-- made_from: 0 recipes, 1 things, 2 let, 3 barred, 4 changed, 5 recipe, 6 lot, 7 thing -/
def t_made_from (K : PySem.W.Frag) : TS :=
  (tSeq (tAsg (tC (.bl true)) (gName 4))
    (tSeq (tWhile (tB (tVar 4))
    (tSeq (tAsg (tC (.bl false)) (gName 4))
    (tFor (iEnumT K (tCons (tVar 0) tNil)) (gTup K 2 (gCons (gName 5) (gCons (gTup K 2 (gCons (gName 6) (gCons (gName 7) gNil))) gNil)))
    (tIfS (tAnd (tTruI (tOp rAndI (tOp rShrI (tVar 2) (tVar 7)) (tC (.int 1)))) (tAnd (tNot (tTruI (tOp rAndI (tOp rShrI (tVar 1) (tVar 7)) (tC (.int 1))))) (tNot (tTruI (tOp rAndI (tOp rShrI (tVar 3) (tVar 5)) (tC (.int 1))))))) (tIfS (tTest (tOp rEq (tOp rAndI (tCall sp_mask_of [] E0 (tCons (tVar 6) tNil)) (tUn rInv (tVar 1))) (tC (.int 0)))) (tSeq (tAsg (tOp rOrI (tVar 1) (tOp rShlI (tC (.int 1)) (tVar 7))) (gName 1))
    (tAsg (tC (.bl true)) (gName 4))) tNext) tNext))))
    (tRet (tVar 1))))
end Un
namespace Un
open PySem L2 PySem.Spec PyProof.Rows
local macro_rules | `(tactic| tm_at "s") => `(tactic| with_reducible first
  | refine s_seq ?_ | (refine s_asg ?_; dsimp only [List.set]) | refine s_next ?_ | refine s_ret ?_ | refine s_drop ?_ | refine s_ifs ?_ | refine s_brk ?_ | refine s_cont ?_ | refine s_retN ?_
  | refine s_var rfl ?_ | refine s_c ?_ | refine s_op ?_ | refine s_cons ?_ | refine s_nil ?_ | refine s_call ?_ | refine s_CB ?_ | refine s_un ?_
  | refine s_test ?_ | refine s_tB ?_ | refine s_k ?_ | refine s_not ?_ | refine s_and ?_ | refine s_or ?_ | refine s_notV ?_ | refine s_andV ?_ | refine s_orV ?_ | refine s_if ?_
  | refine s_add ?_ | refine s_sub ?_ | refine s_lt ?_ | refine s_le ?_ | refine s_gt ?_ | refine s_ge ?_ | refine s_eqI ?_ | refine s_neI ?_ | refine s_band ?_ | refine s_bor ?_ | refine s_neg ?_ | refine s_inv ?_
  | refine s_isN ?_ | refine s_notN ?_ | refine s_int1 ?_ | refine s_abs ?_ | refine s_min2 ?_ | refine s_max2 ?_
  | refine s_tup ?_ | refine s_lst ?_ | refine s_chain ?_ | refine s_truI ?_ | refine s_ki ?_ | refine s_sfld ?_ | refine s_fld ?_ | refine g_cons ?_ | refine g_nil ?_ | (refine g_name ?_; dsimp only [List.set]) | refine s_isD (by decide) (by assumption) ?_)
local macro_rules | `(tactic| tm_at "go") => `(tactic| repeat' (tm_at "s"))
variable {K : PySem.W.Frag}
theorem at0 {x y : V} : atI [x, y] 0 = some x := rfl
theorem at1 {x y : V} : atI [x, y] 1 = some y := rfl
theorem pure_is_recipe (vs : List V) (H : Hp) (Q : VK) (E : XK) (h : sp_is_recipe vs H Q E) : t_is_recipe { nx := fun _ H' => Q .non H', rt := Q } (start ["many", "given", "thing"] vs) H := by
  obtain ⟨v, d, m, g, gv, rfl, hg, hd, k⟩ := h
  show t_is_recipe _ [some (.int m), some (.ref g), some v] H
  unfold t_is_recipe
  tm_at "go"
  have no : ∀ H', Same H H' → ¬ RecOk m gv d → Q (.bl false) H' := fun H' e n => by
    have := k H' e
    rw [decP_false n] at this
    exact this
  cases d with
  | tuple ds =>
    obtain ⟨a, xs, rfl, ha, hr⟩ := rp_tup.mp hd
    refine iteF ?_
    tm_at "go"
    refine s_lenT ha ?_
    tm_at "go"
    refine s_itend (fun h1 => ?_) fun h1 => ?_
    · refine iteT ?_
      tm_at "go"
      refine no _ (Same.refl _) ?_
      rintro ⟨r, e, _⟩
      cases e
      exact h1 (by rw [hr.length]; rfl)
    · have hx2 : xs.length = 2 := by omega
      match xs, hx2 with
      | [x, y], _ =>
        match ds, hr.length with
        | [l, t], _ =>
          obtain ⟨_, _, e1, hl, hr1⟩ := rpAll_cons.mp hr
          cases e1
          obtain ⟨_, _, e1, ht, hr2⟩ := rpAll_cons.mp hr1
          cases e1
          tm_at "go"
          refine s_ixT ha at0 ?_
          tm_at "go"
          refine ⟨x, l, m, rfl, hl, fun H1 e1 => ?_⟩
          tm_at "go"
          refine s_iten (fun h2 => ?_) fun h2 => ?_
          · refine iteT ?_
            tm_at "go"
            refine no _ e1 ?_
            rintro ⟨r, e, r1, r2, _⟩
            rw [(recD_eq e).1, isLot_iff.mpr ⟨r.1, rfl, r2⟩] at h2
            cases h2
          · obtain ⟨ns, rfl, hns⟩ := isLot_iff.mp h2
            obtain ⟨b, rfl, hb⟩ := rp_lot.mp hl
            tm_at "go"
            refine s_ixT (e1 _ _ ha) at0 ?_
            tm_at "go"
            refine s_lenT (e1 _ _ hb) ?_
            tm_at "go"
            refine s_ited (fun h3 => ?_) fun h3 => ?_
            · tm_at "go"
              refine no _ e1 ?_
              rintro ⟨r, e, r1, _⟩
              rw [← lotD_inj (recD_eq e).1] at r1
              refine r1 ?_
              have : (vN ns).length = 0 := by omega
              rw [vN, List.length_map] at this
              exact List.eq_nil_of_length_eq_zero this
            · have hne : ns ≠ [] := by
                rintro rfl
                exact h3 rfl
              tm_at "go"
              refine s_ixT (e1 _ _ ha) at1 ?_
              tm_at "go"
              refine ⟨y, t, m, rfl, ht.up e1, fun H2 e2 => ?_⟩
              have e3 := e1.trans e2
              tm_at "go"
              refine s_ite (fun h4 => ?_) fun h4 => ?_
              · obtain ⟨n, rfl, hn⟩ := idx_iff.mp h4
                rw [rp_int.mp ht] at ha
                tm_at "go"
                refine s_ixT (e3 _ _ ha) at1 ?_
                tm_at "go"
                refine s_ixT (e3 _ _ ha) at0 ?_
                refine s_inT (e3 _ _ hb) ?_
                tm_at "go"
                show if (!decide (n ∈ ns)) = true then _ else _
                refine s_itend (fun h5 => ?_) fun h5 => ?_
                · tm_at "go"
                  refine s_ixT (e3 _ _ ha) at1 ?_
                  tm_at "go"
                  refine s_inT (e3 _ _ hg) ?_
                  show Q (.bl (!decide (n ∈ gv))) H2
                  have e : (!decide (n ∈ gv)) = decP (RecOk m gv (.tuple [lotD ns, .int n])) := by
                    refine decP_eq ?_
                    rw [Bool.not_eq_true', decide_eq_false_iff_not]
                    constructor
                    · intro h6
                      exact ⟨(ns, n), rfl, hne, hns, hn, h5, h6⟩
                    · rintro ⟨r, e, q⟩
                      have en : n = r.2 := by
                        have := (recD_eq e).2
                        injection this with this
                        omega
                      rw [en]
                      exact q.2.2.2.2
                  rw [e]
                  exact k _ e3
                · refine no _ e3 ?_
                  rintro ⟨r, e, q⟩
                  have en : n = r.2 := by
                    have := (recD_eq e).2
                    injection this with this
                    omega
                  refine q.2.2.2.1 ?_
                  rw [← en, ← lotD_inj (recD_eq e).1]
                  exact h5
              · refine no _ e3 ?_
                rintro ⟨r, e, q⟩
                rw [(recD_eq e).2, idx_iff.mpr ⟨r.2, rfl, q.2.2.1⟩] at h4
                cases h4
  | _ =>
    refine iteT ?_
    tm_at "go"
    refine no _ (Same.refl _) ?_
    rintro ⟨r, e, _⟩
    cases e
theorem g_slot {n : Nat} {σ : L2.St} {v : V} {H : Hp} {QS : L2.St → Hp → Prop} (h : QS (σ.set n (some v)) H) : gName n v σ H QS := h
theorem pure_are_recipes (vs : List V) (H : Hp) (Q : VK) (E : XK) (h : sp_are_recipes vs H Q E) : t_are_recipes K { nx := fun _ H' => Q .non H', rt := Q } (start ["many", "given", "thing", "recipe"] vs) H := by
  obtain ⟨v, d, m, g, gv, rfl, hg, hd, hlen, k⟩ := h
  show t_are_recipes K _ [some (.int m), some (.ref g), some v, none] H
  unfold t_are_recipes
  tm_at "go"
  have no : ∀ H', Same H H' → ¬ RecsOk m gv d → Q (.bl false) H' := fun H' e n => by
    have := k H' e
    rw [decP_false n] at this
    exact this
  cases d with
  | tuple ds =>
    obtain ⟨a, xs, rfl, ha, hr⟩ := rp_tup.mp hd
    have hl := hr.length
    have hl2 : ds.length ≤ 1000 := hlen
    refine iteF ?_
    tm_at "go"
    refine s_lenT ha ?_
    tm_at "go"
    refine s_ited (fun h1 => ?_) fun h1 => ?_
    · tm_at "go"
      refine no _ (Same.refl _) ?_
      rintro ⟨rs, e, q, _⟩
      cases e
      rw [List.length_map] at hl
      omega
    · tm_at "go"
      refine s_allT ds (fun d => decP (RecOk m gv d)) ha hl (by omega) (fun _ q => ⟨_, rfl, q⟩) (fun i x d hx hd H1 P e1 hP => ?_) fun H1 e1 => ?_
      · refine g_slot ⟨rfl, ?_⟩
        show tCall _ _ _ _ [some (.int m), some (.ref g), some (.ref a), some x] H1 P
        tm_at "go"
        obtain ⟨d', q1, q2⟩ := hr.get hx
        rw [hd] at q1
        cases q1
        exact ⟨x, d, m, g, gv, rfl, e1 _ _ hg, q2.up e1, fun H2 e2 => hP H2 e2⟩
      · have e : (ds.all fun d => decP (RecOk m gv d)) = decP (RecsOk m gv (.tuple ds)) := by
          refine decP_eq ?_
          rw [List.all_eq_true]
          constructor
          · intro q
            have q2 : ∀ d ∈ ds, ∃ r, d = recD r ∧ RecN m gv r := fun d hd => decP_iff.mp (q d hd)
            have : ∀ ds : List PyData, (∀ d ∈ ds, ∃ r, d = recD r ∧ RecN m gv r) → ∃ rs : List Rec, ds = rs.map recD ∧ ∀ r ∈ rs, RecN m gv r := by
              intro ds
              induction ds with
              | nil => intro _; exact ⟨[], rfl, fun r hr => nomatch hr⟩
              | cons d ds ih =>
                intro q
                obtain ⟨r, rfl, h1⟩ := q d (List.mem_cons_self ..)
                obtain ⟨rs, rfl, h2⟩ := ih fun d hd => q d (List.mem_cons_of_mem _ hd)
                refine ⟨r :: rs, rfl, fun r' hr' => ?_⟩
                rcases List.mem_cons.mp hr' with rfl | hr'
                · exact h1
                · exact h2 _ hr'
            obtain ⟨rs, rfl, h2⟩ := this ds q2
            refine ⟨rs, rfl, ?_, h2⟩
            rw [List.length_map] at hl
            omega
          · rintro ⟨rs, e, _, q⟩ d hd
            cases e
            obtain ⟨r, hr1, rfl⟩ := List.mem_map.mp hd
            exact decP_true ⟨r, rfl, q r hr1⟩
        rw [e]
        exact k _ e1
  | _ =>
    refine iteT ?_
    tm_at "go"
    refine no _ (Same.refl _) ?_
    rintro ⟨r, e, _⟩
    cases e
end Un
namespace Un
open PySem L2 PySem.Spec PyProof.Rows
local macro_rules | `(tactic| tm_at "s") => `(tactic| with_reducible first
  | refine s_seq ?_ | (refine s_asg ?_; dsimp only [List.set]) | refine s_next ?_ | refine s_ret ?_ | refine s_drop ?_ | refine s_ifs ?_ | refine s_brk ?_ | refine s_cont ?_ | refine s_retN ?_
  | refine s_var rfl ?_ | refine s_c ?_ | refine s_op ?_ | refine s_cons ?_ | refine s_nil ?_ | refine s_call ?_ | refine s_CB ?_ | refine s_un ?_
  | refine s_test ?_ | refine s_tB ?_ | refine s_k ?_ | refine s_not ?_ | refine s_and ?_ | refine s_or ?_ | refine s_notV ?_ | refine s_andV ?_ | refine s_orV ?_ | refine s_if ?_
  | refine s_add ?_ | refine s_sub ?_ | refine s_lt ?_ | refine s_le ?_ | refine s_gt ?_ | refine s_ge ?_ | refine s_eqI ?_ | refine s_neI ?_ | refine s_band ?_ | refine s_bor ?_ | refine s_neg ?_ | refine s_inv ?_
  | refine s_isN ?_ | refine s_notN ?_ | refine s_int1 ?_ | refine s_abs ?_ | refine s_min2 ?_ | refine s_max2 ?_
  | refine s_tup ?_ | refine s_lst ?_ | refine s_chain ?_ | refine s_truI ?_ | refine s_ki ?_ | refine s_sfld ?_ | refine s_fld ?_ | refine g_cons ?_ | refine g_nil ?_ | (refine g_name ?_; dsimp only [List.set]) | refine s_isD (by decide) (by assumption) ?_)
local macro_rules | `(tactic| tm_at "go") => `(tactic| repeat' (tm_at "s"))
variable {K : PySem.W.Frag}
theorem rp_recs {H : Hp} {rs : List Rec} {v : V} (h : Rp H (recsD rs) v) : ∃ a xs, v = .ref a ∧ H a = some (.tup xs) ∧ xs.length = rs.length ∧ ∀ (i : Nat) (x : V), xs[i]? = some x → ∃ (r : Rec) (b : Addr), rs[i]? = some r ∧ x = V.ref b ∧ ∃ c, H b = some (.tup [.ref c, .int (r.2 : Int)]) ∧ H c = some (.tup (vN r.1)) := by
  obtain ⟨a, xs, rfl, ha, hr⟩ := rp_tup.mp h
  refine ⟨a, xs, rfl, ha, by rw [hr.length, List.length_map], fun i x hx => ?_⟩
  obtain ⟨d, h1, h2⟩ := hr.get hx
  rw [List.getElem?_map] at h1
  obtain ⟨r, hr1, rfl⟩ := Option.map_eq_some_iff.mp h1
  obtain ⟨b, ys, rfl, hb, hy⟩ := rp_tup.mp h2
  obtain ⟨y, r1, e1, hl, hr2⟩ := rpAll_cons.mp hy
  subst e1
  obtain ⟨z, r2, e1, hz, hr3⟩ := rpAll_cons.mp hr2
  subst e1
  rw [rpAll_nil.mp hr3] at hb
  rw [rp_int.mp hz] at hb
  obtain ⟨c, rfl, hc⟩ := rp_lot.mp hl
  exact ⟨r, b, hr1, rfl, c, hb, hc⟩
def cnt (rs : List Rec) (S : Nat) : Nat := rs.countP fun r => !S.testBit r.2
theorem cnt_lt {rs : List Rec} {S : Nat} {r : Rec} (hr : r ∈ rs) (h : S.testBit r.2 = false) : cnt rs (S ||| 1 <<< r.2) < cnt rs S := by
  refine countP_lt (fun x _ hx => ?_) ⟨r, hr, by rw [h]; rfl, ?_⟩
  · rw [Bool.not_eq_true', bit_put, Bool.or_eq_false_iff] at hx
    rw [hx.1]
    rfl
  · rw [bit_put, decide_eq_true rfl, Bool.or_true]
    rfl
theorem ne0_bit (b : Bool) : ((if b = true then (1 : Int) else 0) != 0) = b := by cases b <;> rfl
theorem bit_test (m k : Nat) : (Builtin.bitAnd ((m : Int) / (2 : Int) ^ ((k : Int)).toNat) 1 != 0) = m.testBit k := by
  rw [bit_nat, ne0_bit]
/-- the state of the inner loop: from S0, behind i recipes -/
structure MadeAt (rs : List Rec) (T L B S0 : Nat) (i : Nat) (S : Nat) (c : Bool) : Prop where
  base : Sub T S
  least : ∀ R, Sub T R → Closed rs L B R → Sub S R
  no : c = false → S = S0 ∧ ∀ k r, k < i → rs[k]? = some r → L.testBit r.2 = true → B.testBit k = false → (∀ n ∈ r.1, S.testBit n = true) → S.testBit r.2 = true
  yes : c = true → cnt rs S < cnt rs S0
  le : cnt rs S ≤ cnt rs S0
theorem sub_mk {ns : List Nat} {S : Nat} : Sub (mk ns) S ↔ ∀ n ∈ ns, S.testBit n = true := by
  constructor
  · intro h n hn
    exact h n (by rw [bit_mk]; exact decide_eq_true hn)
  · intro h i hi
    rw [bit_mk] at hi
    exact h i (of_decide_eq_true hi)
theorem pure_made_from (vs : List V) (H : Hp) (Q : VK) (E : XK) (h : sp_made_from vs H Q E) : t_made_from K { nx := fun _ H' => Q .non H', rt := Q } (start ["recipes", "things", "let", "barred", "changed", "recipe", "lot", "thing"] vs) H := by
  obtain ⟨a, rs, T, L, B, rfl, hrs, hlen, hb, k⟩ := h
  obtain ⟨_, xs, e, ha, hxl, hx⟩ := rp_recs hrs
  cases e
  show t_made_from K _ [some (.ref a), some (.int T), some (.int L), some (.int B), none, none, none, none] H
  unfold t_made_from
  tm_at "go"
  refine s_whileV (fun σ H1 => ∃ (S : Nat) (c : Bool) (x y z : Option V), σ = [some (.ref a), some (.int S), some (.int L), some (.int B), some (.bl c), x, y, z] ∧ Same H H1 ∧ Sub T S ∧ (∀ R, Sub T R → Closed rs L B R → Sub S R) ∧ (c = false → Closed rs L B S))
    (fun σ _ => match σ with | [_, some (.int S), _, _, some (.bl c), _, _, _] => cnt rs S.toNat + (if c = true then 1 else 0) | _ => 0)
    ⟨T, true, none, none, none, rfl, Same.refl _, fun _ h => h, fun R h _ => h, fun h => (by cases h)⟩ ?_
  rintro σ H1 ⟨S, c, x, y, z, rfl, e1, hT, hR, hC⟩
  refine ⟨c, rfl, fun hc => ?_, fun hc => ?_⟩
  · subst hc
    tm_at "go"
    refine s_forE (fun i σ H2 => ∃ (S' : Nat) (c : Bool) (x y z : Option V), σ = [some (.ref a), some (.int S'), some (.int L), some (.int B), some (.bl c), x, y, z] ∧ Same H H2 ∧ MadeAt rs T L B S i S' c)
      (e1 _ _ ha) ⟨S, false, x, y, z, rfl, e1, ⟨hT, hR, fun _ => ⟨rfl, fun k r hk => absurd hk (Nat.not_lt_zero _)⟩, fun h => (by cases h), Nat.le_refl _⟩⟩ (fun i σ H2 ⟨_, _, _, _, _, _, e, _⟩ => e _ _ ha) ?_ ?_ fun _ q => ⟨_, rfl, q⟩
    · rintro i v σ H2 p hi ⟨S', c, x, y, z, rfl, e2, M⟩ hp
      obtain ⟨r, b, hr, rfl, cc, hb1, hc1⟩ := hx i v hi
      have hrm : r ∈ rs := List.mem_of_getElem? hr
      have hp' : ∀ q o, H q = some o → (upd H2 p (.tup [.int (i : Nat), .ref b])) q = some o := fun q o hq => (e2.out (e2.free hp)) q o hq
      refine g_tup upd_same rfl ?_
      tm_at "go"
      refine g_tup (hp' _ _ hb1) rfl ?_
      tm_at "go"
      have e3 : Same H (upd H2 p (.tup [.int (i : Nat), .ref b])) := hp'
      refine s_shr (by omega) ?_
      tm_at "go"
      rw [bit_test]
      have stay : ∀ H3, Same H H3 → ((L.testBit r.2 = true → B.testBit i = false → (∀ n ∈ r.1, S'.testBit n = true) → S'.testBit r.2 = true)) → ∃ (S'' : Nat) (c' : Bool) (x y z : Option V), ([some (.ref a), some (.int S'), some (.int L), some (.int B), some (.bl c), some (.int (i : Nat)), some (.ref cc), some (.int (r.2 : Int))] : L2.St) = [some (.ref a), some (.int S''), some (.int L), some (.int B), some (.bl c'), x, y, z] ∧ Same H H3 ∧ MadeAt rs T L B S (i + 1) S'' c' := by
        intro H3 e4 hz
        refine ⟨S', c, _, _, _, rfl, e4, ⟨M.base, M.least, fun hc => ?_, M.yes, M.le⟩⟩
        obtain ⟨q1, q2⟩ := M.no hc
        refine ⟨q1, fun k r' hk hr' => ?_⟩
        by_cases hki : k = i
        · subst hki
          rw [hr] at hr'
          cases hr'
          exact hz
        · exact q2 k r' (by omega) hr'
      refine s_ite (fun h1 => ?_) fun h1 => ?_
      · tm_at "go"
        refine s_shr (by omega) ?_
        tm_at "go"
        rw [bit_test]
        refine s_iten (fun h2 => ?_) fun h2 => ?_
        · tm_at "go"
          refine s_shr (by omega) ?_
          tm_at "go"
          rw [bit_test]
          refine s_iten (fun h3 => ?_) fun h3 => ?_
          · tm_at "go"
            refine ⟨cc, r.1, rfl, e3 _ _ hc1, (hb r hrm).2, fun H3 e4 => ?_⟩
            tm_at "go"
            rw [bandnot_nat]
            refine s_ited (fun h4 => ?_) fun h4 => ?_
            · tm_at "go"
              refine s_shl ⟨by omega, by have := (hb r hrm).1; omega, by decide⟩ ?_
              tm_at "go"
              rw [shl_nat, bor_nat]
              have hsub : Sub (mk r.1) S' := (sub_iff _ _).mp (by omega)
              refine ⟨_, true, _, _, _, rfl, e3.trans e4, ⟨?_, fun R q1 q2 => ?_, fun h => (by cases h), fun _ => ?_, ?_⟩⟩
              · intro j hj
                rw [bit_put, M.base j hj, Bool.true_or]
              · intro j hj
                rw [bit_put, Bool.or_eq_true] at hj
                rcases hj with hj | hj
                · exact M.least R q1 q2 j hj
                · rw [of_decide_eq_true hj]
                  exact q2 i r hr h1 h3 fun n hn => M.least R q1 q2 n (sub_mk.mp hsub n hn)
              · exact Nat.lt_of_lt_of_le (cnt_lt hrm h2) M.le
              · exact Nat.le_of_lt (Nat.lt_of_lt_of_le (cnt_lt hrm h2) M.le)
            · tm_at "go"
              refine stay _ (e3.trans e4) fun _ _ q => absurd ?_ h4
              have := (sub_iff (mk r.1) S').mpr (sub_mk.mpr q)
              omega
          · tm_at "go"
            exact stay _ e3 fun _ q => by rw [h3] at q; cases q
        · refine iteF ?_
          tm_at "go"
          exact stay _ e3 fun _ _ _ => h2
      · refine iteF ?_
        tm_at "go"
        exact stay _ e3 fun q => by rw [h1] at q; cases q
    · rintro σ H2 ⟨S', c, x, y, z, rfl, e2, M⟩
      refine ⟨⟨S', c, x, y, z, rfl, e2, M.base, M.least, fun hc => ?_⟩, ?_⟩
      · intro k r hr
        obtain ⟨q1, q2⟩ := M.no hc
        exact q2 k r (by rw [hxl]; exact (List.getElem?_eq_some_iff.mp hr).1) hr
      · show cnt rs (S' : Int).toNat + (if c = true then 1 else 0) < cnt rs (S : Int).toNat + 1
        rw [Int.toNat_natCast, Int.toNat_natCast]
        cases c with
        | true =>
          have := M.yes rfl
          rw [if_pos rfl]
          omega
        | false =>
          have := M.le
          rw [if_neg Bool.false_ne_true]
          omega
  · tm_at "go"
    exact k S H1 ⟨hT, hC hc, hR⟩ e1
end Un
/-! Cookeries: what their class promises. -/
namespace Un
open PySem L2 PySem.Spec PyProof.Rows
def toI : PyData → Int
  | .int i => i
  | _ => 0
def toNs : PyData → List Nat
  | .tuple ds => ds.map fun d => (toI d).toNat
  | _ => []
def toR : PyData → Rec
  | .tuple [l, t] => (toNs l, (toI t).toNat)
  | _ => ([], 0)
def toRs : PyData → List Rec
  | .tuple ds => ds.map toR
  | _ => []
theorem toNs_lot (ns : List Nat) : toNs (lotD ns) = ns := by
  show (dN ns).map _ = ns
  unfold dN
  rw [List.map_map]
  have : ((fun d => (toI d).toNat) ∘ fun n : Nat => PyData.int (n : Int)) = id := by
    funext n
    show ((n : Int)).toNat = n
    exact Int.toNat_natCast n
  rw [this, List.map_id]
theorem toR_rec (r : Rec) : toR (recD r) = r := by
  show (toNs (lotD r.1), ((r.2 : Int)).toNat) = r
  rw [toNs_lot, Int.toNat_natCast]
theorem toRs_recs (rs : List Rec) : toRs (recsD rs) = rs := by
  show (rs.map recD).map toR = rs
  rw [List.map_map]
  have : toR ∘ recD = id := by
    funext r
    exact toR_rec r
  rw [this, List.map_id]
/-- goals as they must be -/
def GoalsOk (m : Int) (gv : List Nat) (rs : List Rec) (d : PyData) : Prop :=
  ∃ gl, d = lotD gl ∧ LotN m gl ∧ gl ≠ [] ∧ (∀ g ∈ gl, g ∉ gv) ∧ ∀ R, IsMade rs (mk gv) (2 ^ m.toNat - 1) 0 R → Sub (mk gl) R
/-- the first part that is not as described -/
noncomputable def badP (d0 d1 d2 d3 : PyData) : Option Str :=
  if btw d0 2 40 = false then some ("many" : Str) else if isLot d1 (toI d0) = false then some ("given" : Str)
  else if decP (RecsOk (toI d0) (toNs d1) d2) = false then some ("recipes" : Str) else if decP (GoalsOk (toI d0) (toNs d1) (toRs d2) d3) = false then some ("goals" : Str) else none
def cookF (v0 v1 v2 v3 : V) : List (Str × V) := [("kept_many", v0), ("kept_given", v1), ("kept_recipes", v2), ("kept_goals", v3)]
structure CookTxt (K : PySem.W.Frag) (C : Addr) : Prop where
  cl : Cls K C
  n0 : NoAttr K C "kept_many"
  n1 : NoAttr K C "kept_given"
  n2 : NoAttr K C "kept_recipes"
  n3 : NoAttr K C "kept_goals"
def sp_Cookery_init (C CE : Addr) : Sp := fun vs H Q E => ∃ (p dx : Addr) (v0 v1 v2 v3 : V) (d0 d1 d2 d3 : PyData), vs = [.ref p, v0, v1, v2, v3] ∧ H p = some (.ins C dx []) ∧ Rp H d0 v0 ∧ Rp H d1 v1 ∧ Rp H d2 v2 ∧ Rp H d3 v3 ∧ lenD d2 ≤ 1000 ∧
  (∀ t, badP d0 d1 d2 d3 = some t → ∀ H' d, Same H H' → H' d = none → E (.ref CE) (some d) (upd H' d (.xd [(("part" : Str), .str t)]))) ∧
  (badP d0 d1 d2 d3 = none → ∀ H', (∀ b o, b ≠ p → H b = some o → H' b = some o) → H' p = some (.ins C dx (cookF v0 v1 v2 v3)) → Q .non H')
end Un
namespace Un
open PySem L2 PySem.Spec PyProof.Rows
/-- Cookery.__init__: 0 self, 1 many, 2 given, 3 recipes, 4 goals, 5 goal -/
def t_Cookery_init (K : PySem.W.Frag) (C_NoCookery : Addr) (E : XK) : TS :=
  (tSeq (tIfS (tNot (tB (tCall sp_is_between [] E0 (tCons (tVar 1) (tCons (tC (.int 2)) (tCons (tC (.int 40)) tNil)))))) (tRaiseP C_NoCookery (fun cls d _ H => E cls d H) (tCons (tC (.str "many")) tNil)) tNext)
    (tSeq (tIfS (tNot (tB (tCall sp_is_lot [] E0 (tCons (tVar 2) (tCons (tVar 1) tNil))))) (tRaiseP C_NoCookery (fun cls d _ H => E cls d H) (tCons (tC (.str "given")) tNil)) tNext)
    (tSeq (tIfS (tNot (tB (tCall sp_are_recipes [] E0 (tCons (tVar 1) (tCons (tVar 2) (tCons (tVar 3) tNil)))))) (tRaiseP C_NoCookery (fun cls d _ H => E cls d H) (tCons (tC (.str "recipes")) tNil)) tNext)
    (tSeq (tIfS (tOr (tNot (tB (tCall sp_is_lot [] E0 (tCons (tVar 4) (tCons (tVar 1) tNil))))) (tOr (tTest (tOp rEq (tCB rLenF (tCons (tVar 4) tNil)) (tC (.int 0)))) (tB (tCB rAnyF (tCons (tLc (iTup K (tVar 4)) (gName 5) tYes (tOp (rInF false) (tVar 5) (tVar 2)) [5]) tNil))))) (tRaiseP C_NoCookery (fun cls d _ H => E cls d H) (tCons (tC (.str "goals")) tNil)) tNext)
    (tSeq (tIfS (tTest (tOp rGtI (tOp rAndI (tCall sp_mask_of [] E0 (tCons (tVar 4) tNil)) (tUn rInv (tCall sp_made_from [] E0 (tCons (tVar 3) (tCons (tCall sp_mask_of [] E0 (tCons (tVar 2) tNil)) (tCons (tOp rSubI (tOp rShlI (tC (.int 1)) (tVar 1)) (tC (.int 1))) (tCons (tC (.int 0)) tNil))))))) (tC (.int 0)))) (tRaiseP C_NoCookery (fun cls d _ H => E cls d H) (tCons (tC (.str "goals")) tNil)) tNext)
    (tSeq (sFld K (tVar 0) (tVar 1) "kept_many")
    (tSeq (sFld K (tVar 0) (tVar 2) "kept_given")
    (tSeq (sFld K (tVar 0) (tVar 3) "kept_recipes")
    (sFld K (tVar 0) (tVar 4) "kept_goals")))))))))
end Un
namespace Un
open PySem L2 PySem.Spec PyProof.Rows
local macro_rules | `(tactic| tm_at "s") => `(tactic| with_reducible first
  | refine s_seq ?_ | (refine s_asg ?_; dsimp only [List.set]) | refine s_next ?_ | refine s_ret ?_ | refine s_drop ?_ | refine s_ifs ?_ | refine s_brk ?_ | refine s_cont ?_ | refine s_retN ?_
  | refine s_var rfl ?_ | refine s_c ?_ | refine s_op ?_ | refine s_cons ?_ | refine s_nil ?_ | refine s_call ?_ | refine s_CB ?_ | refine s_un ?_
  | refine s_test ?_ | refine s_tB ?_ | refine s_k ?_ | refine s_not ?_ | refine s_and ?_ | refine s_or ?_ | refine s_notV ?_ | refine s_andV ?_ | refine s_orV ?_ | refine s_if ?_
  | refine s_add ?_ | refine s_sub ?_ | refine s_lt ?_ | refine s_le ?_ | refine s_gt ?_ | refine s_ge ?_ | refine s_eqI ?_ | refine s_neI ?_ | refine s_band ?_ | refine s_bor ?_ | refine s_neg ?_ | refine s_inv ?_
  | refine s_isN ?_ | refine s_notN ?_ | refine s_int1 ?_ | refine s_abs ?_ | refine s_min2 ?_ | refine s_max2 ?_
  | refine s_tup ?_ | refine s_lst ?_ | refine s_chain ?_ | refine s_truI ?_ | refine s_ki ?_ | refine s_sfld ?_ | refine s_fld ?_ | refine g_cons ?_ | refine g_nil ?_ | (refine g_name ?_; dsimp only [List.set]) | refine s_isD (by decide) (by assumption) ?_)
local macro_rules | `(tactic| tm_at "go") => `(tactic| repeat' (tm_at "s"))
variable {K : PySem.W.Frag} {C CE : Addr}
theorem s_raiseP {W : WX} {v : V} {D : Ends} {σ : L2.St} {H : Hp} (h : ∀ d, H d = none → W (.ref CE) (some d) σ (upd H d (.xd [(("part" : Str), v)]))) : tRaiseP CE W (tCons (tC v) tNil) D σ H := ⟨v, rfl, h⟩
theorem ne_str {a b : Str} (h : (a == b) = false) : ¬ a = b := fun e => by subst e; simp at h
theorem cookF_eq (v0 v1 v2 v3 : V) : putF "kept_goals" v3 (putF "kept_recipes" v2 (putF "kept_given" v1 (putF "kept_many" v0 []))) = cookF v0 v1 v2 v3 := by
  have e1 : ¬ (("kept_many" : Str) = "kept_given") := by decide +kernel
  have e2 : ¬ (("kept_many" : Str) = "kept_recipes") := by decide +kernel
  have e3 : ¬ (("kept_many" : Str) = "kept_goals") := by decide +kernel
  have e4 : ¬ (("kept_given" : Str) = "kept_recipes") := by decide +kernel
  have e5 : ¬ (("kept_given" : Str) = "kept_goals") := by decide +kernel
  have e6 : ¬ (("kept_recipes" : Str) = "kept_goals") := by decide +kernel
  simp only [putF, e1, e2, e3, e4, e5, e6, if_false, cookF]
theorem lot_len : ∀ (ns : List Nat) (lo m : Nat), ns.Pairwise (· < ·) → (∀ n ∈ ns, lo ≤ n ∧ n < m) → ns.length ≤ m - lo
  | [], _, _, _, _ => by simp
  | n :: r, lo, m, h, hb => by
    obtain ⟨h1, h2⟩ := List.pairwise_cons.mp h
    have q := lot_len r (n + 1) m h2 fun x hx => ⟨h1 x hx, (hb x (List.mem_cons_of_mem _ hx)).2⟩
    have q2 := hb n (List.mem_cons_self ..)
    rw [List.length_cons]
    omega
theorem pure_Cookery_init (T : CookTxt K C) (vs : List V) (H : Hp) (Q : VK) (E : XK) (h : sp_Cookery_init C CE vs H Q E) : t_Cookery_init K CE E { nx := fun _ H' => Q .non H', rt := Q } (start ["self", "many", "given", "recipes", "goals", "goal"] vs) H := by
  obtain ⟨p, dx, v0, v1, v2, v3, d0, d1, d2, d3, rfl, hp, r0, r1, r2, r3, hlen, kE, kQ⟩ := h
  show t_Cookery_init K CE E _ [some (.ref p), some v0, some v1, some v2, some v3, none] H
  unfold t_Cookery_init
  tm_at "go"
  refine ⟨v0, d0, 2, 40, rfl, r0, fun H1 e1 => ?_⟩
  tm_at "go"
  refine s_iten (fun h0 => ?_) fun h0 => ?_
  · refine s_raiseP fun d hd => kE _ ?_ _ d e1 hd
    unfold badP
    rw [if_pos h0]
  have b0 : ¬ btw d0 2 40 = false := by rw [h0]; decide
  obtain ⟨m, rfl, hm2, hm40⟩ : ∃ m : Nat, d0 = .int (m : Int) ∧ 2 ≤ m ∧ m ≤ 40 := by
    cases d0 with
    | int i =>
      simp only [btw, Bool.and_eq_true, decide_eq_true_eq] at h0
      exact ⟨i.toNat, by rw [Int.toNat_of_nonneg (by omega)], by omega, by omega⟩
    | _ => cases h0
  obtain rfl := rp_int.mp r0
  tm_at "go"
  refine ⟨v1, d1, m, rfl, r1.up e1, fun H2 e2 => ?_⟩
  have f2 := e1.trans e2
  tm_at "go"
  refine s_iten (fun h1 => ?_) fun h1 => ?_
  · refine s_raiseP fun d hd => kE _ ?_ _ d f2 hd
    unfold badP
    rw [if_neg b0, if_pos (show isLot d1 (toI (.int (m : Int))) = false from h1)]
  have b1 : ¬ isLot d1 (toI (.int (m : Int))) = false := by
    show ¬ isLot d1 (m : Int) = false
    rw [h1]
    decide
  obtain ⟨gv, rfl, hgv⟩ := isLot_iff.mp h1
  obtain ⟨g, rfl, hg⟩ := rp_lot.mp r1
  tm_at "go"
  refine ⟨v2, d2, m, g, gv, rfl, f2 _ _ hg, r2.up f2, hlen, fun H3 e3 => ?_⟩
  have f3 := f2.trans e3
  tm_at "go"
  refine s_iten (fun h2 => ?_) fun h2 => ?_
  · refine s_raiseP fun d hd => kE _ ?_ _ d f3 hd
    unfold badP
    rw [if_neg b0, if_neg b1, toNs_lot, if_pos (show decP (RecsOk (toI (.int (m : Int))) gv d2) = false from h2)]
  have b2 : ¬ decP (RecsOk (toI (.int (m : Int))) (toNs (lotD gv)) d2) = false := by
    rw [toNs_lot]
    show ¬ decP (RecsOk (m : Int) gv d2) = false
    rw [h2]
    decide
  obtain ⟨rs, rfl, hrl, hrs⟩ := decP_iff.mp h2
  obtain ⟨ra, xs, rfl, hra, hxl, hxs⟩ := rp_recs r2
  have badG : decP (GoalsOk m gv rs d3) = false → badP (.int (m : Int)) (lotD gv) (recsD rs) d3 = some ("goals" : Str) := fun h => by
    unfold badP
    rw [if_neg b0, if_neg b1, if_neg b2, toNs_lot, toRs_recs, if_pos (show decP (GoalsOk (toI (.int (m : Int))) gv rs d3) = false from h)]
  tm_at "go"
  refine ⟨v3, d3, m, rfl, r3.up f3, fun H4 e4 => ?_⟩
  have f4 := f3.trans e4
  tm_at "go"
  refine s_iten (fun h3 => ?_) fun h3 => ?_
  · refine iteT ?_
    refine s_raiseP fun d hd => kE _ (badG (decP_false ?_)) _ d f4 hd
    rintro ⟨gl, rfl, q, _⟩
    rw [isLot_iff.mpr ⟨gl, rfl, q⟩] at h3
    cases h3
  obtain ⟨gl, rfl, hgl⟩ := isLot_iff.mp h3
  obtain ⟨ga, rfl, hga⟩ := rp_lot.mp r3
  have hgm : ∀ n ∈ gl, n < m := fun n hn => by have := hgl.2 n hn; omega
  have hglen : gl.length ≤ 1000 := by
    have := lot_len gl 0 m hgl.1 fun n hn => ⟨Nat.zero_le _, hgm n hn⟩
    omega
  tm_at "go"
  refine s_lenT (f4 _ _ hga) ?_
  tm_at "go"
  refine s_ited (fun h4 => ?_) fun h4 => ?_
  · refine iteT ?_
    refine s_raiseP fun d hd => kE _ (badG (decP_false ?_)) _ d f4 hd
    rintro ⟨gl', e, _, q, _⟩
    rw [← lotD_inj e] at q
    refine q ?_
    have : (vN gl).length = 0 := by omega
    rw [vN, List.length_map] at this
    exact List.eq_nil_of_length_eq_zero this
  tm_at "go"
  refine s_anyT gl (fun n => decide (n ∈ gv)) (f4 _ _ hga) (by rw [vN, List.length_map]) (by rw [vN, List.length_map]; omega) (fun _ q => ⟨_, rfl, q⟩) (fun i x n hx hn H5 P e5 hP => ?_) fun H5 e5 => ?_
  · rw [vN, List.getElem?_map, hn] at hx
    cases hx
    refine g_slot ⟨rfl, ?_⟩
    show tOp _ _ _ [some (.ref p), some (.int m), some (.ref g), some (.ref ra), some (.ref ga), some (.int (n : Int))] H5 P
    tm_at "go"
    refine s_inT ((f4.trans e5) _ _ hg) ?_
    exact hP _ (Same.refl _)
  have f5 := f4.trans e5
  tm_at "go"
  refine s_ite (fun h5 => ?_) fun h5 => ?_
  · refine s_raiseP fun d hd => kE _ (badG (decP_false ?_)) _ d f5 hd
    rintro ⟨gl', e, _, _, q, _⟩
    rw [← lotD_inj e] at q
    obtain ⟨n, h6, h7⟩ := List.any_eq_true.mp h5
    exact q n h6 (of_decide_eq_true h7)
  have hgg : ∀ n ∈ gl, n ∉ gv := fun n hn hm => by
    have : gl.any (fun n => decide (n ∈ gv)) = true := List.any_eq_true.mpr ⟨n, hn, decide_eq_true hm⟩
    rw [h5] at this
    cases this
  tm_at "go"
  refine ⟨ga, gl, rfl, f5 _ _ hga, fun n hn => by have := hgm n hn; omega, fun H6 e6 => ?_⟩
  have f6 := f5.trans e6
  tm_at "go"
  refine ⟨g, gv, rfl, f6 _ _ hg, fun n hn => by have := hgv.2 n hn; omega, fun H7 e7 => ?_⟩
  have f7 := f6.trans e7
  tm_at "go"
  refine s_shl ⟨by omega, by omega, by decide⟩ ?_
  tm_at "go"
  rw [full_nat]
  refine ⟨ra, rs, mk gv, 2 ^ m - 1, 0, rfl, r2.up f7, by omega, fun r hr => ?_, fun R H8 hR e8 => ?_⟩
  · obtain ⟨_, q1, q2, _⟩ := hrs r hr
    exact ⟨by omega, fun n hn => by have := q1.2 n hn; omega⟩
  have f8 := f7.trans e8
  tm_at "go"
  rw [bandnot_nat]
  refine s_ited (fun h6 => ?_) fun h6 => ?_
  · refine s_raiseP fun d hd => kE _ (badG (decP_false ?_)) _ d f8 hd
    rintro ⟨gl', e, _, _, _, q⟩
    rw [← lotD_inj e] at q
    have := (sub_iff _ _).mpr (q R (by rw [Int.toNat_natCast]; exact hR))
    omega
  have bad0 : badP (.int (m : Int)) (lotD gv) (recsD rs) (lotD gl) = none := by
    unfold badP
    rw [if_neg b0, if_neg b1, if_neg b2, toNs_lot, toRs_recs, if_neg]
    rw [show decP (GoalsOk (toI (.int (m : Int))) gv rs (lotD gl)) = true from ?_]
    · decide
    refine decP_true ⟨gl, rfl, hgl, ?_, hgg, fun R' hR' => ?_⟩
    · rintro rfl
      exact h4 rfl
    · have e : R' = R := by
        have z : IsMade rs (mk gv) (2 ^ m - 1) 0 R' := by
          have := hR'
          rw [show toI (.int (m : Int)) = (m : Int) from rfl, Int.toNat_natCast] at this
          exact this
        exact z.uniq hR
      rw [e]
      exact (sub_iff _ _).mp (by omega)
  tm_at "go"
  refine ⟨p, C, dx, [], rfl, f8 _ _ hp, T.cl, T.n0, by decide, ?_⟩
  tm_at "go"
  refine ⟨p, C, dx, _, rfl, upd_same, T.cl, T.n1, (by show 1 < 1000; decide), ?_⟩
  tm_at "go"
  refine ⟨p, C, dx, _, rfl, upd_same, T.cl, T.n2, ?_, ?_⟩
  · exact Nat.lt_of_le_of_lt (length_putF _ _ _) (by show 2 < 1000; decide)
  tm_at "go"
  refine ⟨p, C, dx, _, rfl, upd_same, T.cl, T.n3, ?_, ?_⟩
  · exact Nat.lt_of_le_of_lt (length_putF _ _ _) (Nat.lt_of_le_of_lt (Nat.succ_le_succ (length_putF _ _ _)) (by show 3 < 1000; decide))
  rw [cookF_eq]
  refine kQ bad0 _ (fun b o hb e => ?_) upd_same
  rw [upd_ne hb, upd_ne hb, upd_ne hb, upd_ne hb]
  exact f8 b o e
end Un
/-! A tuple whose object is known: a method of it may be called (its object has no dict). -/
namespace Un
open PySem L2 PySem.Spec PyProof.Rows
/-- the tuple xs at a, its object known -/
def TupZ (H : Hp) (a : Addr) (xs : List V) : Prop := ∃ o : Obj, o.dict = none ∧ H a = some (.frz o (.tup xs))
theorem TupZ.up {H H' : Hp} {a : Addr} {xs : List V} (h : TupZ H a xs) (e : Same H H') : TupZ H' a xs := by
  obtain ⟨o, h1, h2⟩ := h
  exact ⟨o, h1, e _ _ h2⟩
theorem TupZ.sq {K : PySem.W.Frag} {H : Hp} {a : Addr} {xs : List V} (h : TupZ H a xs) : SqT K H a xs := by
  obtain ⟨o, h1, h2⟩ := h
  exact .inl (.inr ⟨o, h2⟩)
theorem TupZ.ty {K : PySem.W.Frag} {H : Hp} {a : Addr} {xs : List V} (h : TupZ H a xs) : TyX K H (.ref a) (.type "tuple") := by
  obtain ⟨o, h1, h2⟩ := h
  exact .fTuple h2
section
variable {X : Cx}
/-- tuple(xs) of a list -/
def rTupZ : List V → Hp → VK → Prop := fun xs H Q => ∃ p ys, xs = [.ref p] ∧ H p = some (.lst ys) ∧ ∀ l o, H l = none → o.dict = none → Q (.ref l) (upd H l (.frz o (.tup ys)))
theorem u_tupZ : CallR X (.type "tuple") rTupZ := by
  intro pins s σ H vs us Q I r h
  obtain ⟨p, ys, rfl, hp, q⟩ := h
  rw [Vals.ref1 r]
  obtain ⟨its, rv, pl, hz⟩ := I.list (SqL.of hp)
  refine call_tuple_list pl.isList (fun h' hk => ?_) (by rw [List.size_toArray, ← rv.length]; exact hz)
  have I1 : Inv X pins σ H { s with heap := h' } := I.kept (t' := s.toks) hk
  have I2 : Inv X pins σ (upd H h'.objs.size (.frz { cls := .type "tuple", data := .seq its.toArray } (.tup ys))) { s with heap := h'.push { cls := .type "tuple", data := .seq its.toArray } } :=
    I1.laid (t' := s.toks) (fun b o e => Heap.get?_push_of_some _ e) (Nat.le_refl _) ⟨Heap.get?_push_size _ rfl, hz, its, rv, IsTup.new _ _⟩
  exact ⟨.ref h'.objs.size, _, I2, rfl, q _ _ (I1.hok.fresh (Nat.le_refl _)) rfl⟩
/-- isinstance(x, T), x of a known type -/
def rIsX (K : PySem.W.Frag) : List V → Hp → VK → Prop := fun xs H Q => ∃ (x : V) (T : String) (t : Value) (b : Bool), xs = [x, .ty T] ∧ TyX K H x t ∧ PySem.W.kitOne K t (.type T) = some b ∧ Q (.bl b) H
theorem u_isX : CallR X (.builtin "isinstance") (rIsX X.K) := L2.CallR.imp call_isi fun xs H Q h => by
  obtain ⟨x, T, t, b, rfl, h1, h2, q⟩ := h
  exact ⟨x, .ty T, t, _, b, rfl, .ty T, h1, h2, q⟩
/-- sorted(t), ints, t known to the kit's rules -/
def rSortedTQ (K : PySem.W.Frag) : List V → Hp → VK → Prop := fun vs H Q => ∃ (a : Addr) (ns : List Int), vs = [V.ref a] ∧ SqT K H a (ns.map V.int) ∧
  ∀ (ns' : List Int) (p : Addr), ns'.Perm ns → ns'.Pairwise (· ≤ ·) → H p = none → Q (.ref p) (upd H p (.lst (ns'.map V.int)))
theorem u_sortedTQ : CallR X (.builtin "sorted") (rSortedTQ X.K) := by
  intro pins s σ H vs us Q I r h
  obtain ⟨a, ns, rfl, hs, q⟩ := h
  obtain ⟨its, rv, hl, hz⟩ := I.tuple hs
  rw [Vals.ref1 r]
  have hi := rv.ints
  refine PySem.UnT.sorted_tup SrtO.swo_int hl (by rw [← rv.length]; exact hz) (fun h2 h₁ a' _ _ => SrtO.ints_sortable hi h2) fun out h1 h2 => ?_
  obtain ⟨k1, k2, k3⟩ := SrtO.ints_out hi h1 h2
  obtain ⟨ep, he'⟩ := PyProof.Rows.sortedAll_at s.heap its out.toArray
  have hlen : ((out.map SrtO.iv).map V.int).length ≤ sizeLine := by
    rw [List.length_map, k2.length_eq]
    rw [List.length_map] at hz
    exact hz
  exact ⟨.ref _, upd H (s.heap.objs.size + 1) (.lst ((out.map SrtO.iv).map V.int)), I.laid (t' := s.toks) (fun _ _ => PyProof.Rows.sortedAll_old) (Nat.le_succ _) ⟨hlen, out, ep, vals_of_ints k1, he'⟩, rfl, q _ _ k2 k3 (I.hok.fresh (Nat.le_succ _))⟩
def rIndexZ (K : PySem.W.Frag) : V → List V → Hp → VK → Prop := fun x xs H Q => ∃ (a : Addr) (ns : List Int) (k : Int), x = V.ref a ∧ xs = [.int k] ∧ SqT K H a (ns.map V.int) ∧ k ∈ ns ∧ Q (.int (ns.idxOf k : Nat)) H
theorem mt_indexZ : MtR X "tuple.index" (rIndexZ X.K) := by
  intro pins s σ H x xs v us Q I rx rxs h
  obtain ⟨a, ns, k, rfl, rfl, hs, hk, q⟩ := h
  cases rx
  obtain ⟨u, rfl, ru⟩ := rxs.one
  obtain ⟨t, rfl⟩ := ru
  obtain ⟨its, rv, hl, hz⟩ := I.tuple hs
  exact PySem.SeqAt.tuple_index_ints (show s.heap.IsTuple a its.toArray from hl) rv.ints hk ⟨.int (ns.idxOf k : Nat), H, I.tok _, ⟨_, rfl⟩, q⟩
/-- o.m(e, ..), o such a tuple -/
def tBMZ (r : V → List V → Hp → VK → Prop) (to : TE) (t : TA) : TE := fun σ H Q => to σ H fun x H1 => (∃ q xs, x = .ref q ∧ TupZ H1 q xs) ∧ t σ H1 fun xs H2 => r x xs H2 Q
theorem pe_bmZ {name : Str} {id : String} {o e : Expr} {es : List Expr} {to : TE} {t : TA} {apos cpos : Pos} {r : V → List V → Hp → VK → Prop} (slot : Slot "tuple" name id) (hty : typeOf (.builtin id) = pure (.type "method_descriptor")) (hm : MtR X id r) (ho : PE X o to) (ha : PA X (e :: es) t)
    (hbase : attributeBase o name X.env (eval o X.env) = eval o X.env := by rfl)
    (hfew : ((backTo cpos (starEach (e :: es) X.env)).all (fun x => !x.1) && (backToKw cpos (keywordEach [] X.env)).all (fun x => x.1.isSome)
      && decide ((e :: es).length + ([] : List Keyword).length + (if ([] : List Keyword).isEmpty then 0 else 1) < 30)) = true := by rfl)
    (hline : (apos.endLine == cpos.line) = true := by rfl) (hs : starEach (e :: es) X.env = (false, eval e X.env) :: starEach es X.env := by rfl) (hplain : (backTo cpos (starEach es X.env)).any (·.1) = false := by rfl) :
    PE X (.Call (.Attribute o name apos) (e :: es) [] cpos) (tBMZ r to t) := by
  refine ⟨fun pins s σ H Q I h => ?_⟩
  refine wpAny_Call_method_late hbase hfew hline rfl (thn (ho.run pins s σ H _ I h) fun v s1 ⟨x, H1, I1, r1, ⟨q0, ys, ex, oz, hd, hz⟩, q1⟩ => ?_)
  subst ex
  cases r1
  obtain ⟨e1, z, its, rv, ob, e2, hc, _⟩ := I1.hok q0 _ hz
  refine ⟨"tuple", id, PySem.F.plainAttrs_tuple, slot, hty, ⟨ob, e2, hc⟩, fun a ea => ?_, ?_⟩
  · cases ea
    exact ⟨oz, e1, hd⟩
  have hA := ha.run cpos pins s1 σ H1 _ I1 q1
  rw [hs] at hA ⊢
  refine Calls.callWith_builtin (by show (false || (backTo cpos (starEach es X.env)).any (·.1)) = false; rw [hplain] <;> rfl) (Calls.evalArgs_plain ?_)
  exact thn hA fun us s2 ⟨vs, H2, I2, r2, q2⟩ => hm pins s2 σ H2 (.ref q0) vs (.ref q0) us Q I2 rfl r2 q2
end
section
variable {K : PySem.W.Frag} {σ : L2.St} {H : Hp} {Q : VK} {te tx : TE} {g : TG} {vs : List Nat} {a : Addr} {xs : List V}
theorem s_allZ {α : Type} (l : List α) (p : α → Bool) (ha : TupZ H a xs) (hl : xs.length = l.length) (hn : xs.length ≤ 100000) (he : ∀ Q : VK, Q (.ref a) H → te σ H Q)
    (hx : ∀ (i : Nat) (x : V) (d : α), xs[i]? = some x → l[i]? = some d → ∀ (H1 : Hp) (P : VK), Same H H1 → (∀ H4, Same H1 H4 → P (.bl (p d)) H4) → g x (wipe σ vs) H1 fun σ2 H2 => wipe σ2 vs = wipe σ vs ∧ tx σ2 H2 P)
    (k : ∀ H1, Same H H1 → Q (.bl (l.all p)) H1) : tLc (iTup K te) g tYes tx vs σ H (fun x H1 => tNil σ H1 fun xs H2 => rAllF (x :: xs) H2 Q) := by
  show iTup K te σ H _
  refine he _ ⟨a, rfl, ⟨xs, ha.sq⟩, fun D hD => ?_⟩
  refine lc_tup (K := K) (a := a) (xs := xs) (fun i H1 => Same H H1 ∧ H1 D = some (.lst (lcOut (fun _ => true) (fun i => ((l[i]?.map fun d => V.bl (p d)).getD .non)) i))) ⟨L2.Same.new hD, upd_same⟩ (fun i H1 _ ⟨e, _⟩ => (ha.up e).sq) (fun i x H1 hi ⟨e, hd⟩ => ?_) fun H1 ⟨e, hd⟩ => ?_
  · have hil : i < l.length := by rw [← hl]; exact (List.getElem?_eq_some_iff.mp hi).1
    have hd' : l[i]? = some l[i] := List.getElem?_eq_getElem hil
    refine hx i x l[i] hi hd' H1 _ e fun H4 e4 => ?_
    have := lc_inv (c := fun _ => true) (f := fun i => ((l[i]?.map fun d => V.bl (p d)).getD .non)) i hD e hd e4 (by omega) (fun i H1 => Same H H1 ∧ H1 D = some (.lst (lcOut (fun _ => true) (fun i => ((l[i]?.map fun d => V.bl (p d)).getD .non)) i))) (fun H' a b => ⟨a, b⟩) rfl
    simp only [hd', Option.map_some, Option.getD_some] at this
    exact this
  · rw [lcOut_all, hl, map_range] at hd
    refine ⟨D, l.map p, rfl, ?_, ?_⟩
    · rw [List.map_map]
      exact hd
    · rw [List.all_map]
      exact k H1 e
end
end Un
/-! The order of a kitchen. -/
namespace Un
open PySem L2 PySem.Spec PyProof.Rows
structure Ord (m : Nat) (rs : List Rec) (L : List Nat) : Prop where
  nd : L.Nodup
  lt : ∀ t ∈ L, t < m
  beh : ∀ (i t : Nat), L[i]? = some t → ∀ r ∈ rs, r.2 = t → ∀ n ∈ r.1, n ∈ L.take i
def OrdAll (m : Nat) (rs : List Rec) (L : List Nat) : Prop := ∀ t, t < m → (∀ r ∈ rs, r.2 = t → ∀ n ∈ r.1, n ∈ L) → t ∈ L
theorem Ord.sub {m : Nat} {rs : List Rec} {L L' : List Nat} (h : Ord m rs L) (h' : OrdAll m rs L') : ∀ (k i t : Nat), i < k → L[i]? = some t → t ∈ L'
  | 0, i, _, hi, _ => absurd hi (Nat.not_lt_zero _)
  | k + 1, i, t, hi, ht => by
    refine h' t (h.lt t (List.mem_of_getElem? ht)) fun r hr he n hn => ?_
    have hm := h.beh i t ht r hr he n hn
    obtain ⟨j, hj⟩ := List.mem_iff_getElem?.mp hm
    have hji : j < i := by
      have := (List.getElem?_eq_some_iff.mp hj).1
      rw [List.length_take] at this
      omega
    rw [List.getElem?_take_of_lt hji] at hj
    exact Ord.sub h h' k j n (by omega) hj
theorem Ord.mem {m : Nat} {rs : List Rec} {L L' : List Nat} (h : Ord m rs L) (h' : OrdAll m rs L') {t : Nat} (ht : t ∈ L) : t ∈ L' := by
  obtain ⟨i, hi⟩ := List.mem_iff_getElem?.mp ht
  exact h.sub h' (i + 1) i t (Nat.lt_succ_self _) hi
theorem nodup_len {L L' : List Nat} (h : L.Nodup) (hs : ∀ t ∈ L, t ∈ L') : L.length ≤ L'.length := by
  induction L generalizing L' with
  | nil => simp
  | cons a L ih =>
    obtain ⟨h1, h2⟩ := List.nodup_cons.mp h
    have ha := hs a (List.mem_cons_self ..)
    have q := ih (L' := L'.erase a) h2 fun t ht => by
      have hne : t ≠ a := fun e => h1 (e ▸ ht)
      exact (List.mem_erase_of_ne hne).mpr (hs t (List.mem_cons_of_mem _ ht))
    rw [List.length_erase_of_mem ha] at q
    have := List.length_pos_of_mem ha
    rw [List.length_cons]
    omega
theorem Ord.len {m : Nat} {rs : List Rec} {L L' : List Nat} (h : Ord m rs L) (a : OrdAll m rs L) (h' : Ord m rs L') (a' : OrdAll m rs L') : L.length = L'.length :=
  Nat.le_antisymm (nodup_len h.nd fun _ ht => h.mem a' ht) (nodup_len h'.nd fun _ ht => h'.mem a ht)
theorem Ord.snoc {m : Nat} {rs : List Rec} {L : List Nat} (h : Ord m rs L) {t : Nat} (ht : t < m) (hn : t ∉ L) (hr : ∀ r ∈ rs, r.2 = t → ∀ n ∈ r.1, n ∈ L) : Ord m rs (L ++ [t]) where
  nd := List.nodup_append.mpr ⟨h.nd, by simp, fun a ha b hb => by
    have e : b = t := by simpa using hb
    rw [e]
    rintro rfl
    exact hn ha⟩
  lt := fun x hx => by
    rcases List.mem_append.mp hx with hx | hx
    · exact h.lt x hx
    · have e : x = t := by simpa using hx
      rw [e]
      exact ht
  beh := fun i x hx r hr' he n hn' => by
    by_cases hi : i < L.length
    · rw [List.getElem?_append_left hi] at hx
      rw [List.take_append_of_le_length (Nat.le_of_lt hi)]
      exact h.beh i x hx r hr' he n hn'
    · have hl := (List.getElem?_eq_some_iff.mp hx).1
      rw [List.length_append] at hl
      have hl1 : [t].length = 1 := rfl
      have e : i = L.length := by omega
      subst e
      have ex : x = t := by
        rw [List.getElem?_append_right (Nat.le_refl _), Nat.sub_self] at hx
        exact (Option.some.inj hx).symm
      subst ex
      rw [List.take_left']
      · exact hr r hr' he n hn'
      · rfl
theorem Ord.le {m : Nat} {rs : List Rec} {L : List Nat} (h : Ord m rs L) : L.length ≤ m := by
  have := nodup_len (L := L) (L' := List.range m) h.nd fun t ht => List.mem_range.mpr (h.lt t ht)
  rwa [List.length_range] at this
def sp_kitchen_order (C : Addr) : Sp := fun vs H Q _ => ∃ (p dx : Addr) (m : Nat) (v1 v3 : V) (a2 : Addr) (rs : List Rec), vs = [.ref p] ∧ H p = some (.ins C dx (cookF (.int m) v1 (.ref a2) v3)) ∧ Rp H (recsD rs) (.ref a2) ∧ m ≤ 1000 ∧ rs.length ≤ 1000 ∧ (∀ r ∈ rs, r.1.length ≤ 1000) ∧
  ∀ L, Ord m rs L → OrdAll m rs L → (L.length < m → ∀ H', Same H H' → Q .non H') ∧ (¬ L.length < m → ∀ q H', H q = none → Same H H' → TupZ H' q (vN L) → Q (.ref q) H')
/-- the parts that a cookery tells -/
def sp_fieldC (C : Addr) (f : Str) : Sp := fun vs H Q _ => ∃ (p dx : Addr) (v0 v1 v2 v3 v : V), vs = [.ref p] ∧ H p = some (.ins C dx (cookF v0 v1 v2 v3)) ∧ (cookF v0 v1 v2 v3).lookup f = some v ∧ Q v H
def sp_parts (C : Addr) : Sp := fun vs H Q _ => ∃ (p dx : Addr) (v0 v1 v2 v3 : V), vs = [.ref p] ∧ H p = some (.ins C dx (cookF v0 v1 v2 v3)) ∧ ∀ q, H q = none → Q (.ref q) (upd H q (.tup [v0, v1, v2, v3]))
theorem cookF_many {v0 v1 v2 v3 : V} : (cookF v0 v1 v2 v3).lookup ("kept_many" : Str) = some v0 := by simp [cookF, List.lookup]
theorem cookF_given {v0 v1 v2 v3 : V} : (cookF v0 v1 v2 v3).lookup ("kept_given" : Str) = some v1 := by
  have e : (("kept_given" : Str) == "kept_many") = false := by decide +kernel
  simp [cookF, List.lookup, e]
theorem cookF_recipes {v0 v1 v2 v3 : V} : (cookF v0 v1 v2 v3).lookup ("kept_recipes" : Str) = some v2 := by
  have e : (("kept_recipes" : Str) == "kept_many") = false := by decide +kernel
  have e2 : (("kept_recipes" : Str) == "kept_given") = false := by decide +kernel
  simp [cookF, List.lookup, e, e2]
theorem cookF_goals {v0 v1 v2 v3 : V} : (cookF v0 v1 v2 v3).lookup ("kept_goals" : Str) = some v3 := by
  have e : (("kept_goals" : Str) == "kept_many") = false := by decide +kernel
  have e2 : (("kept_goals" : Str) == "kept_given") = false := by decide +kernel
  have e3 : (("kept_goals" : Str) == "kept_recipes") = false := by decide +kernel
  simp [cookF, List.lookup, e, e2, e3]
end Un
namespace Un
open PySem L2 PySem.Spec PyProof.Rows
/-- kitchen_order: 0 cookery, 1 found, 2 changed, 3 thing, 4 needs, 5 lot, 6 made, 7 one -/
def t_kitchen_order (K : PySem.W.Frag) : TS :=
  (tSeq (tAsg (tLst tNil) (gName 1))
    (tSeq (tAsg (tC (.bl true)) (gName 2))
    (tSeq (tWhile (tB (tVar 2))
    (tSeq (tAsg (tC (.bl false)) (gName 2))
    (tFor (iRng1 (tCons (tFld K (tVar 0) "kept_many") tNil)) (gName 3)
    (tSeq (tAsg (tLc (iTup K (tFld K (tVar 0) "kept_recipes")) (gTup K 2 (gCons (gName 5) (gCons (gName 6) gNil))) (tTest (tOp rEq (tVar 6) (tVar 3))) (tVar 5) [5, 6]) (gName 4))
    (tIfS (tAnd (tTest (tOp (rInF true) (tVar 3) (tVar 1))) (tB (tCB rAllF (tCons (tLc (iList K (tVar 4)) (gName 5) tYes (tCB rAllF (tCons (tLc (iTup K (tVar 5)) (gName 7) tYes (tOp (rInF false) (tVar 7) (tVar 1)) [7]) tNil)) [5]) tNil)))) (tSeq (tDrop (tBM K "list" rAppend (tVar 1) (tCons (tVar 3) tNil)))
    (tAsg (tC (.bl true)) (gName 2))) tNext)))))
    (tSeq (tIfS (tTest (tOp rLtI (tCB rLenF (tCons (tVar 1) tNil)) (tFld K (tVar 0) "kept_many"))) (tRet (tC .non)) tNext)
    (tRet (tCB rTupZ (tCons (tVar 1) tNil)))))))
/-- Cookery.many: 0 self -/
def t_Cookery_many (K : PySem.W.Frag) : TS :=
  (tRet (tFld K (tVar 0) "kept_many"))
/-- Cookery.given: 0 self -/
def t_Cookery_given (K : PySem.W.Frag) : TS :=
  (tRet (tFld K (tVar 0) "kept_given"))
/-- Cookery.recipes: 0 self -/
def t_Cookery_recipes (K : PySem.W.Frag) : TS :=
  (tRet (tFld K (tVar 0) "kept_recipes"))
/-- Cookery.goals: 0 self -/
def t_Cookery_goals (K : PySem.W.Frag) : TS :=
  (tRet (tFld K (tVar 0) "kept_goals"))
/-- Cookery.parts: 0 self -/
def t_Cookery_parts (K : PySem.W.Frag) : TS :=
  (tRet (tTup (tCons (tFld K (tVar 0) "kept_many") (tCons (tFld K (tVar 0) "kept_given") (tCons (tFld K (tVar 0) "kept_recipes") (tCons (tFld K (tVar 0) "kept_goals") tNil))))))
end Un
namespace Un
open PySem L2 PySem.Spec PyProof.Rows
local macro_rules | `(tactic| tm_at "s") => `(tactic| with_reducible first
  | refine s_seq ?_ | (refine s_asg ?_; dsimp only [List.set]) | refine s_next ?_ | refine s_ret ?_ | refine s_drop ?_ | refine s_ifs ?_ | refine s_brk ?_ | refine s_cont ?_ | refine s_retN ?_
  | refine s_var rfl ?_ | refine s_c ?_ | refine s_op ?_ | refine s_cons ?_ | refine s_nil ?_ | refine s_call ?_ | refine s_CB ?_ | refine s_un ?_
  | refine s_test ?_ | refine s_tB ?_ | refine s_k ?_ | refine s_not ?_ | refine s_and ?_ | refine s_or ?_ | refine s_notV ?_ | refine s_andV ?_ | refine s_orV ?_ | refine s_if ?_
  | refine s_add ?_ | refine s_sub ?_ | refine s_lt ?_ | refine s_le ?_ | refine s_gt ?_ | refine s_ge ?_ | refine s_eqI ?_ | refine s_neI ?_ | refine s_band ?_ | refine s_bor ?_ | refine s_neg ?_ | refine s_inv ?_
  | refine s_isN ?_ | refine s_notN ?_ | refine s_int1 ?_ | refine s_abs ?_ | refine s_min2 ?_ | refine s_max2 ?_
  | refine s_tup ?_ | refine s_lst ?_ | refine s_chain ?_ | refine s_truI ?_ | refine s_ki ?_ | refine s_sfld ?_ | refine s_fld ?_ | refine g_cons ?_ | refine g_nil ?_ | (refine g_name ?_; dsimp only [List.set]) | refine s_isD (by decide) (by assumption) ?_)
local macro_rules | `(tactic| tm_at "go") => `(tactic| repeat' (tm_at "s"))
variable {K : PySem.W.Frag} {C : Addr}
def lotAt (H : Hp) (x : V) : V := match x with
  | .ref b => (match H b with | some (.tup [l, _]) => l | _ => .non)
  | _ => .non
/-- the lots of the recipes for t -/
def lotsFor (rs : List Rec) (t n : Nat) : List (List Nat) := ((rs.take n).filter fun r => decide (r.2 = t)).map (·.1)
theorem lotsFor_succ {rs : List Rec} {t n : Nat} {r : Rec} (h : rs[n]? = some r) : lotsFor rs t (n + 1) = if r.2 = t then lotsFor rs t n ++ [r.1] else lotsFor rs t n := by
  unfold lotsFor
  rw [List.take_succ, h]
  show (((rs.take n) ++ [r]).filter _).map _ = _
  rw [List.filter_append, List.map_append]
  by_cases e : r.2 = t
  · rw [if_pos e]
    simp [e]
  · rw [if_neg e]
    simp [e]
theorem mem_lotsFor {rs : List Rec} {t : Nat} {l : List Nat} : l ∈ lotsFor rs t rs.length ↔ ∃ r ∈ rs, r.2 = t ∧ r.1 = l := by
  unfold lotsFor
  rw [List.take_length, List.mem_map]
  constructor
  · rintro ⟨r, h1, h2⟩
    obtain ⟨h3, h4⟩ := List.mem_filter.mp h1
    exact ⟨r, h3, of_decide_eq_true h4, h2⟩
  · rintro ⟨r, h1, h2, h3⟩
    exact ⟨r, List.mem_filter.mpr ⟨h1, decide_eq_true h2⟩, h3⟩
/-- the state of the inner loop of kitchen_order, from L0, behind i things -/
structure OrdAt (m : Nat) (rs : List Rec) (L0 : List Nat) (i : Nat) (L : List Nat) (c : Bool) : Prop where
  ord : Ord m rs L
  no : c = false → L = L0 ∧ ∀ t, t < i → (∀ r ∈ rs, r.2 = t → ∀ n ∈ r.1, n ∈ L) → t ∈ L
  yes : c = true → L0.length < L.length
  le : L0.length ≤ L.length
def muK (m : Nat) (q : Addr) (σ : L2.St) (H : Hp) : Nat := (match H q with | some (.lst xs) => m - xs.length | _ => 0) + (match σ[2]? with | some (some (.bl true)) => 1 | _ => 0)
theorem pure_kitchen_order (T : CookTxt K C) (vs : List V) (H : Hp) (Q : VK) (E : XK) (h : sp_kitchen_order C vs H Q E) : t_kitchen_order K { nx := fun _ H' => Q .non H', rt := Q } (start ["cookery", "found", "changed", "thing", "needs", "lot", "made", "one"] vs) H := by
  obtain ⟨p, dx, m, v1, v3, a2, rs, rfl, hp, hrs, hm, hrl, hnl, k⟩ := h
  obtain ⟨_, xs, e, ha, hxl, hx⟩ := rp_recs hrs
  cases e
  show t_kitchen_order K _ [some (.ref p), none, none, none, none, none, none, none] H
  unfold t_kitchen_order
  tm_at "go"
  refine ⟨by rw [sizeLine_eq]; decide, fun q hq => ?_⟩
  tm_at "go"
  refine s_whileV (fun σ H1 => ∃ (L : List Nat) (c : Bool) (x y : Option V), σ = [some (.ref p), some (.ref q), some (.bl c), x, y, none, none, none] ∧ Same H H1 ∧ H1 q = some (.lst (vN L)) ∧ Ord m rs L ∧ (c = false → OrdAll m rs L))
    (muK m q) ⟨[], true, none, none, rfl, Same.new hq, upd_same, ⟨.nil, fun _ h => (nomatch h), fun _ _ h => by simp at h⟩, fun h => (by cases h)⟩ ?_
  rintro σ H1 ⟨L, c, x, y, rfl, e1, hL, hO, hC⟩
  refine ⟨c, rfl, fun hc => ?_, fun hc => ?_⟩
  · subst hc
    tm_at "go"
    refine s_forR m (fun i σ H2 => ∃ (L' : List Nat) (c : Bool) (x y : Option V), σ = [some (.ref p), some (.ref q), some (.bl c), x, y, none, none, none] ∧ Same H H2 ∧ H2 q = some (.lst (vN L')) ∧ OrdAt m rs L i L' c)
      (by omega) ⟨L, false, x, y, rfl, e1, hL, ⟨hO, fun _ => ⟨rfl, fun t ht => absurd ht (Nat.not_lt_zero _)⟩, fun h => (by cases h), Nat.le_refl _⟩⟩ ?_ ?_ ?_
    · rintro t σ H2 ht ⟨L', c, x, y, rfl, e2, hL', M⟩
      show tSeq _ _ _ [some (.ref p), some (.ref q), some (.bl c), some (.int (t : Nat)), y, none, none, none] H2
      refine s_seq (s_asg ?_)
      have stay : ∀ H3 (z : Option V), Same H H3 → H3 q = some (.lst (vN L')) → ((∀ r ∈ rs, r.2 = t → ∀ n ∈ r.1, n ∈ L') → t ∈ L') → ∃ (L'' : List Nat) (c' : Bool) (x y : Option V), ([some (.ref p), some (.ref q), some (.bl c), some (.int (t : Nat)), z, none, none, none] : L2.St) = [some (.ref p), some (.ref q), some (.bl c'), x, y, none, none, none] ∧ Same H H3 ∧ H3 q = some (.lst (vN L'')) ∧ OrdAt m rs L (t + 1) L'' c' := by
        intro H3 z e4 hq3 hz
        refine ⟨L', c, _, _, rfl, e4, hq3, ⟨M.ord, fun hc => ?_, M.yes, M.le⟩⟩
        obtain ⟨q1, q2⟩ := M.no hc
        refine ⟨q1, fun t' ht' => ?_⟩
        by_cases hti : t' = t
        · rw [hti]
          exact hz
        · exact q2 t' (by omega)
      obtain ⟨cF, hcF⟩ : ∃ cF : Nat → Bool, ∀ i r, rs[i]? = some r → cF i = decide (r.2 = t) := ⟨fun i => decide ((rs[i]?.map fun r => r.2) = some t), fun i r hr => by
        show decide ((rs[i]?.map fun r => r.2) = some t) = _
        rw [hr, Option.map_some, Bool.eq_iff_iff, decide_eq_true_eq, decide_eq_true_eq]
        exact ⟨fun h => Option.some.inj h, fun h => congrArg some h⟩⟩
      obtain ⟨fF, hfF⟩ : ∃ fF : Nat → V, ∀ i b cc z, xs[i]? = some (.ref b) → H b = some (.tup [.ref cc, z]) → fF i = .ref cc := ⟨fun i => (xs[i]?.map (lotAt H)).getD .non, fun i b cc z h1 h2 => by
        show (xs[i]?.map (lotAt H)).getD .non = _
        rw [h1]
        show lotAt H (.ref b) = _
        unfold lotAt
        simp only [h2]⟩
      -- needs = [lot for lot, made in cookery.kept_recipes if made == thing]
      refine s_lcT cF fF (e2 _ _ ha) (by omega)
        (fun Q' h => ⟨_, rfl, p, C, dx, _, _, rfl, e2 _ _ hp, T.cl, T.n2, cookF_recipes, h⟩) (fun i v hi => ?_) (fun b H3 hb e3 hb3 => ?_)
      · obtain ⟨r, b, hr, rfl, cc, hb1, hc1⟩ := hx i v hi
        intro H3 P N e3 h1 h2
        show gTup K 2 _ (.ref b) [some (.ref p), some (.ref q), some (.bl c), some (.int (t : Nat)), y, none, none, none] H3 _
        refine g_tup ((e2.trans e3) _ _ hb1) rfl ?_
        tm_at "go"
        refine ⟨rfl, ?_⟩
        tm_at "go"
        have ef := hfF i b cc _ hi hb1
        refine s_ited (fun h3 => ?_) fun h3 => ?_
        · tm_at "go"
          have := h1 (by rw [hcF i r hr]; exact decide_eq_true (by omega)) H3 (Same.refl _)
          rw [ef] at this
          exact this
        · exact h2 (by rw [hcF i r hr]; exact decide_eq_false fun z => h3 (by omega)) H3 (Same.refl _)
      have f3 := e2.trans e3
      have hL3 := e3 _ _ hL'
      -- what stands in needs
      have nd : ∀ n, n ≤ rs.length → RpAll H ((lotsFor rs t n).map lotD) (lcOut cF fF n) := by
        intro n
        induction n with
        | zero =>
          intro _
          exact RpAll.nil
        | succ n ih =>
          intro hn
          have hr : rs[n]? = some rs[n] := List.getElem?_eq_getElem hn
          have hi : xs[n]? = some xs[n] := List.getElem?_eq_getElem (by omega)
          obtain ⟨r, b, hr', ex, cc, hb1, hc1⟩ := hx n _ hi
          rw [lcOut_succ, lotsFor_succ hr', hcF n r hr']
          by_cases e : r.2 = t
          · rw [if_pos e, if_pos (decide_eq_true e), List.map_append, hfF n b cc _ (by rw [hi, ex]) hb1]
            exact (ih (by omega)).append (.cons (rp_lot.mpr ⟨cc, rfl, hc1⟩) .nil)
          · rw [if_neg e, if_neg (by rw [decide_eq_false e]; decide)]
            exact ih (by omega)
      have nd' := nd rs.length (Nat.le_refl _)
      rw [hxl] at hb3
      have hlen : (lcOut cF fF rs.length).length = (lotsFor rs t rs.length).length := by
        rw [nd'.length, List.length_map]
      generalize hys : lcOut cF fF rs.length = ys at hb3 nd' hlen
      have hyl : ys.length ≤ rs.length := by
        rw [← hys]
        exact lcOut_len _ _ _
      dsimp only [List.set]
      tm_at "go"
      refine s_inL hL3 ?_
      tm_at "go"
      show if (!decide (t ∈ L')) = true then _ else _
      refine s_itend (fun h1 => ?_) fun h1 => ?_
      · tm_at "go"
        refine s_allL (lotsFor rs t rs.length) (fun l => l.all fun n => decide (n ∈ L')) hb3 hlen (by omega) (fun _ h => ⟨_, rfl, h⟩) (fun i v l hv hl H4 P e4 hP => ?_) fun H4 e4 => ?_
        · obtain ⟨d, hd1, hd2⟩ := nd'.get hv
          rw [List.getElem?_map, hl] at hd1
          cases hd1
          obtain ⟨cc, rfl, hc1⟩ := rp_lot.mp hd2
          obtain ⟨r, hrm, _, rfl⟩ := mem_lotsFor.mp (List.mem_of_getElem? hl)
          refine g_slot ⟨rfl, ?_⟩
          show tCB _ _ [some (.ref p), some (.ref q), some (.bl c), some (.int (t : Nat)), some (.ref b), some (.ref cc), none, none] H4 P
          tm_at "go"
          refine s_allT r.1 (fun n => decide (n ∈ L')) ((f3.trans e4) _ _ hc1) (by rw [vN, List.length_map]) (by rw [vN, List.length_map]; have := hnl r hrm; omega) (fun _ h => ⟨_, rfl, h⟩) (fun j w n hw hn H5 P' e5 hP' => ?_) fun H5 e5 => hP H5 e5
          rw [vN, List.getElem?_map, hn] at hw
          cases hw
          refine g_slot ⟨rfl, ?_⟩
          show tOp _ _ _ [some (.ref p), some (.ref q), some (.bl c), some (.int (t : Nat)), some (.ref b), some (.ref cc), none, some (.int (n : Int))] H5 P'
          tm_at "go"
          exact s_inL ((e4.trans e5) _ _ hL3) (hP' _ (Same.refl _))
        · have hL4 := e4 _ _ hL3
          tm_at "go"
          refine s_ite (fun h2 => ?_) fun h2 => ?_
          · have hsub : ∀ r ∈ rs, r.2 = t → ∀ n ∈ r.1, n ∈ L' := fun r hr he n hn =>
              of_decide_eq_true (List.all_eq_true.mp (List.all_eq_true.mp h2 r.1 (mem_lotsFor.mpr ⟨r, hr, he, rfl⟩)) n hn)
            have O' := M.ord.snoc ht h1 hsub
            have hl' := O'.le
            rw [List.length_append] at hl'
            tm_at "go"
            refine s_bm ?_
            tm_at "go"
            refine s_tyL hL4 ?_
            tm_at "go"
            refine s_app hL4 (by rw [vN, List.length_map]; have : [t].length = 1 := rfl; omega) ?_
            tm_at "go"
            have ev : vN L' ++ [V.int (t : Int)] = vN (L' ++ [t]) := by
              unfold vN
              rw [List.map_append]
              rfl
            rw [ev]
            refine ⟨L' ++ [t], true, _, _, rfl, (f3.trans e4).out hq, upd_same, ⟨O', fun h => (by cases h), fun _ => ?_, ?_⟩⟩
            · rw [List.length_append]
              have := M.le
              have : [t].length = 1 := rfl
              omega
            · rw [List.length_append]
              have := M.le
              omega
          · tm_at "go"
            refine stay _ _ (f3.trans e4) hL4 fun hz => ?_
            have : ((lotsFor rs t rs.length).all fun l => l.all fun n => decide (n ∈ L')) = true := by
              rw [List.all_eq_true]
              intro l hl
              obtain ⟨r, hr, he, rfl⟩ := mem_lotsFor.mp hl
              rw [List.all_eq_true]
              intro n hn
              exact decide_eq_true (hz r hr he n hn)
            rw [this] at h2
            cases h2
      · refine iteF ?_
        tm_at "go"
        exact stay _ _ f3 hL3 fun _ => h1
    · rintro σ H2 ⟨L', c, x, y, rfl, e2, hL', M⟩
      refine ⟨⟨L', c, x, y, rfl, e2, hL', M.ord, fun hc t ht hz => (M.no hc).2 t ht hz⟩, ?_⟩
      have l1 := M.ord.le
      have l2 := hO.le
      unfold muK
      rw [hL', hL]
      show m - (vN L').length + (match some (some (V.bl c)) with | some (some (.bl true)) => 1 | _ => 0) < m - (vN L).length + 1
      rw [vN, vN, List.length_map, List.length_map]
      cases c with
      | true =>
        have := M.yes rfl
        show m - L'.length + 1 < _
        omega
      | false =>
        have := M.le
        show m - L'.length + 0 < _
        omega
    · intro Q' h
      tm_at "go"
      exact ⟨p, C, dx, _, _, rfl, e1 _ _ hp, T.cl, T.n0, cookF_many, h⟩
  · have hA := hC hc
    obtain ⟨k1, k2⟩ := k L hO hA
    tm_at "go"
    refine s_lenL hL ?_
    tm_at "go"
    refine ⟨p, C, dx, _, _, rfl, e1 _ _ hp, T.cl, T.n0, cookF_many, ?_⟩
    tm_at "go"
    refine s_ited (fun h1 => ?_) fun h1 => ?_
    · tm_at "go"
      exact k1 (by rw [vN, List.length_map] at h1; omega) _ e1
    · tm_at "go"
      refine ⟨q, vN L, rfl, hL, fun l o hl ho => ?_⟩
      exact k2 (by rw [vN, List.length_map] at h1; omega) l _ (e1.free hl) (e1.out (e1.free hl)) ⟨o, ho, upd_same⟩
theorem pure_fieldC {f : Str} (T : Cls K C) (hn : NoAttr K C f) (vs : List V) (H : Hp) (Q : VK) (E : XK) (h : sp_fieldC C f vs H Q E) : tRet (tFld K (tVar 0) f) { nx := fun _ H' => Q .non H', rt := Q } (start ["self"] vs) H := by
  obtain ⟨p, dx, v0, v1, v2, v3, v, rfl, hp, hl, q⟩ := h
  show tRet (tFld K (tVar 0) f) _ [some (.ref p)] H
  tm_at "go"
  exact ⟨p, C, dx, _, v, rfl, hp, T, hn, hl, q⟩
theorem pure_Cookery_parts (T : CookTxt K C) (vs : List V) (H : Hp) (Q : VK) (E : XK) (h : sp_parts C vs H Q E) : t_Cookery_parts K { nx := fun _ H' => Q .non H', rt := Q } (start ["self"] vs) H := by
  obtain ⟨p, dx, v0, v1, v2, v3, rfl, hp, q⟩ := h
  show t_Cookery_parts K _ [some (.ref p)] H
  unfold t_Cookery_parts
  tm_at "go"
  refine ⟨p, C, dx, _, _, rfl, hp, T.cl, T.n0, cookF_many, ?_⟩
  tm_at "go"
  refine ⟨p, C, dx, _, _, rfl, hp, T.cl, T.n1, cookF_given, ?_⟩
  tm_at "go"
  refine ⟨p, C, dx, _, _, rfl, hp, T.cl, T.n2, cookF_recipes, ?_⟩
  tm_at "go"
  refine ⟨p, C, dx, _, _, rfl, hp, T.cl, T.n3, cookF_goals, ?_⟩
  tm_at "go"
  exact ⟨by rw [sizeLine_eq]; show 4 ≤ 16777216; decide, q⟩
end Un
/-! The law's draws. -/
namespace Un
open PySem L2 PySem.Spec PyProof.Rows
def sp__law_hand : PySem.W.Frag → Sp := fun K vs H Q _ => ∃ (b : Addr) (ns : List Int), vs = [.ref b] ∧ SqL K H b (ns.map V.int) ∧ ∀ a G' H', H a = none → Same H G' → HandAt G' H' a → Q (.ref a) H'
def sp__law_draw : Sp := fun vs H Q _ => ∃ (a : Addr) (x : Int) (G : Hp), vs = [.ref a, .int x] ∧ HandAt G H a ∧ 0 < x ∧ x < 1073741824 ∧ ∀ (d : Nat) H', (d : Int) < x → Stp a G H G H' → Q (.int (d : Int)) H'
def sp__law_shuffled : Sp := fun vs H Q _ => ∃ (a b : Addr) (xs : List V) (G : Hp), vs = [.ref a, .ref b] ∧ HandAt G H a ∧ H b = some (.lst xs) ∧ b ≠ a ∧ xs.length ≤ 1000 ∧
  ∀ ys p H', ys.Perm xs → H p = none → Stp a G H G H' → H' p = some (.lst ys) → Q (.ref p) H'
def sp__law_needs : Sp := fun vs H Q _ => ∃ (a b : Addr) (pool : List Nat) (G : Hp), vs = [.ref a, .ref b] ∧ HandAt G H a ∧ H b = some (.lst (vN pool)) ∧ b ≠ a ∧ pool ≠ [] ∧ pool.length ≤ 1000 ∧
  ∀ (ns : List Nat) p H', ns ≠ [] → ns.Nodup → (∀ n ∈ ns, n ∈ pool) → H p = none → Stp a G H G H' → H' p = some (.lst (vN ns)) → Q (.ref p) H'
/-- a loop's begin, when what it walks is known -/
theorem s_forRx {σ : L2.St} {H : Hp} {D : Ends} {t : TS} {ta : TA} {g : TG} (h : ta σ H fun vs H1 => tFor (iRng1 fun _ H Q => Q vs H) g t D σ H1) : tFor (iRng1 ta) g t D σ H := h
theorem s_forR2x {σ : L2.St} {H : Hp} {D : Ends} {t : TS} {ta : TA} {g : TG} (h : ta σ H fun vs H1 => tFor (iRng2 fun _ H Q => Q vs H) g t D σ H1) : tFor (iRng2 ta) g t D σ H := h
theorem s_forLx {K : PySem.W.Frag} {σ : L2.St} {H : Hp} {D : Ends} {t : TS} {te : TE} {g : TG} (h : te σ H fun x H1 => tFor (iList K fun _ H Q => Q x H) g t D σ H1) : tFor (iList K te) g t D σ H := h
theorem s_forTx {K : PySem.W.Frag} {σ : L2.St} {H : Hp} {D : Ends} {t : TS} {te : TE} {g : TG} (h : te σ H fun x H1 => tFor (iTup K fun _ H Q => Q x H) g t D σ H1) : tFor (iTup K te) g t D σ H := h
theorem s_lcLx {K : PySem.W.Frag} {σ : L2.St} {H : Hp} {Q : VK} {te tx : TE} {tt : TT} {g : TG} {vs : List Nat} (h : te σ H fun x H1 => tLc (iList K fun _ H Q => Q x H) g tt tx vs σ H1 Q) : tLc (iList K te) g tt tx vs σ H Q := h
theorem s_lcTx {K : PySem.W.Frag} {σ : L2.St} {H : Hp} {Q : VK} {te tx : TE} {tt : TT} {g : TG} {vs : List Nat} (h : te σ H fun x H1 => tLc (iTup K fun _ H Q => Q x H) g tt tx vs σ H1 Q) : tLc (iTup K te) g tt tx vs σ H Q := h
theorem s_lcRx {σ : L2.St} {H : Hp} {Q : VK} {ta : TA} {tx : TE} {tt : TT} {g : TG} {vs : List Nat} (h : ta σ H fun x H1 => tLc (iRng1 fun _ H Q => Q x H) g tt tx vs σ H1 Q) : tLc (iRng1 ta) g tt tx vs σ H Q := h
theorem s_setL {H : Hp} {Q : Hp → Prop} {p : Addr} {xs : List V} {k : Int} {v : V} {j : Nat} (h : H p = some (.lst xs)) (hj : ixN xs.length k = some j) (q : Q (upd H p (.lst (xs.set j v)))) : rSetL (.ref p) (.int k) v H Q := ⟨p, xs, k, j, rfl, rfl, h, hj, q⟩
theorem g_sub {to ti : TE} {t : TSet} {v : V} {σ : L2.St} {H : Hp} {Q : L2.St → Hp → Prop} (h : to σ H fun o H1 => ti σ H1 fun i H2 => t o i v H2 fun H3 => Q σ H3) : gSub to ti t v σ H Q := h
theorem s_asgG {te : TE} {g : TG} {D : Ends} {σ : L2.St} {H : Hp} (h : te σ H fun x H1 => g x σ H1 D.nx) : tAsg te g D σ H := h
theorem s_par {i j : Nat} {ta : TA} {D : Ends} {σ : L2.St} {H : Hp} (h : ta σ H fun vs H1 => ∃ v w, vs = [v, w] ∧ D.nx ((σ.set i (some v)).set j (some w)) H1) : tPar i j ta D σ H := h
theorem g_lst {K : PySem.W.Frag} {n : Nat} {t : TGs} {a : Addr} {xs : List V} {σ : L2.St} {H : Hp} {Q : L2.St → Hp → Prop} (h : H a = some (.lst xs)) (hl : xs.length = n) (q : t xs σ H Q) : gLst K n t (.ref a) σ H Q := ⟨a, xs, rfl, SqL.of h, hl, q⟩
/-- while len(xs) > 0 -/
theorem s_whileLen {n : Nat} {σ : L2.St} {H : Hp} {D : Ends} {tb : TS} (Pv : L2.St → Hp → Prop) (μ : L2.St → Hp → Nat) (h0 : Pv σ H)
    (hs : ∀ σ H, Pv σ H → ∃ q xs, σ[n]? = some (some (.ref q)) ∧ H q = some (.lst xs) ∧ (xs ≠ [] → tb { D with nx := fun σ' H' => Pv σ' H' ∧ μ σ' H' < μ σ H, ct := fun σ' H' => Pv σ' H' ∧ μ σ' H' < μ σ H, bk := D.nx } σ H) ∧ (xs = [] → D.nx σ H)) :
    tWhile (tTest (tOp rGtI (tCB rLenF (tCons (tVar n) tNil)) (tC (.int 0)))) tb D σ H := by
  refine while_by Pv μ h0 (fun σ H p => ?_) ?_
  · obtain ⟨q, xs, h1, h2, h3, h4⟩ := hs σ H p
    refine ⟨_, h1, q, xs, rfl, .inl h2, xs.length, 0, rfl, rfl, _, rfl, ?_⟩
    by_cases e : xs = []
    · subst e
      exact iteF (h4 rfl)
    · have : 0 < xs.length := List.length_pos_iff.mpr e
      rw [decide_eq_true (by omega)]
      exact iteT (h3 e)
  · rintro σ H Q Q' hq ⟨v, h1, q, xs, e, h2, i, j, e1, e2, b, e3, h3⟩
    exact ⟨v, h1, q, xs, e, h2, i, j, e1, e2, b, e3, hq _ _ h3⟩
end Un
namespace Un
open PySem L2 PySem.Spec PyProof.Rows
/-- _law_hand: 0 _law_script, 1 _law_cells, 2 _law_cell -/
def t__law_hand (K : PySem.W.Frag) : TS :=
  (tSeq (tAsg (tLc (iList K (tSl (rSlL K) (tVar 0) tNoPart (tPart (tC (.int 63))))) (gName 2) tYes (tCB rAbs (tCons (tCB rInt1 (tCons (tVar 2) tNil)) tNil)) [2]) (gName 1))
    (tRet (tLst (tCons (tVar 1) (tCons (tC (.int 0)) (tCons (tC (.int 0)) (tCons (tOp rAddI (tC (.int 1)) (tCB rLenF (tCons (tVar 1) tNil))) (tCons (tC (.int 0)) tNil))))))))
def t__law_draw2 : TS :=
    (tSeq (tIfS (tTest (tOp rGtI (tOp rIxF (tVar 0) (tC (.int 2))) (tC (.int 0)))) (tSeq (tAsg (tOp rModI (tCB rInt1 (tCons (tOp rIxF (tVar 0) (tC (.int 2))) tNil)) (tVar 1)) (gName 3))
    (tSeq (tAsg (tOp rDivI (tOp rIxF (tVar 0) (tC (.int 2))) (tVar 1)) (gSub (tVar 0) (tC (.int 2)) rSetL))
    (tRet (tVar 3)))) tNext)
    (tSeq (tAsg (tOp rAddI (tOp rIxF (tVar 0) (tC (.int 4))) (tC (.int 1))) (gSub (tVar 0) (tC (.int 4)) rSetL))
    (tSeq (tAsg (tOp rModI (tCB rInt1 (tCons (tOp rMulI (tCB rInt1 (tCons (tOp rAddI (tOp rIxF (tVar 0) (tC (.int 3))) (tOp rMulI (tC (.int 7919)) (tOp rIxF (tVar 0) (tC (.int 4))))) tNil)) (tC (.int 48271))) tNil)) (tC (.int 2147483647))) (gName 4))
    (tSeq (tAsg (tOp rModI (tCB rInt1 (tCons (tOp rMulI (tVar 4) (tOp rAddI (tOp rDivI (tVar 4) (tC (.int 1009))) (tC (.int 69621)))) tNil)) (tC (.int 2147483647))) (gName 4))
    (tSeq (tAsg (tOp rModI (tCB rInt1 (tCons (tOp rMulI (tVar 4) (tOp rAddI (tOp rDivI (tVar 4) (tC (.int 2003))) (tC (.int 40692)))) tNil)) (tC (.int 2147483399))) (gName 4))
    (tRet (tOp rModI (tCB rInt1 (tCons (tOp rDivI (tVar 4) (tC (.int 16))) tNil)) (tVar 1))))))))
/-- _law_draw: 0 _law_hand_here, 1 _law_many, 2 _law_cell, 3 _law_digit, 4 _law_number -/
def t__law_draw : TS :=
  (tSeq (tIfS (tAnd (tTest (tOp rEq (tOp rIxF (tVar 0) (tC (.int 2))) (tC (.int 0)))) (tTest (tOp rLtI (tOp rIxF (tVar 0) (tC (.int 1))) (tCB rLenF (tCons (tOp rIxF (tVar 0) (tC (.int 0))) tNil))))) (tSeq (tAsg (tOp rIxF (tOp rIxF (tVar 0) (tC (.int 0))) (tOp rIxF (tVar 0) (tC (.int 1)))) (gName 2))
    (tSeq (tAsg (tOp rAddI (tOp rIxF (tVar 0) (tC (.int 1))) (tC (.int 1))) (gSub (tVar 0) (tC (.int 1)) rSetL))
    (tSeq (tAsg (tOp rModI (tCB rInt1 (tCons (tOp rAddI (tOp rAddI (tOp rMulI (tOp rIxF (tVar 0) (tC (.int 3))) (tC (.int 69621))) (tVar 2)) (tC (.int 11))) tNil)) (tC (.int 2147483629))) (gSub (tVar 0) (tC (.int 3)) rSetL))
    (tIfS (tTest (tOp rGeI (tVar 2) (tOp rPowI (tC (.int 10)) (tC (.int 18))))) (tAsg (tVar 2) (gSub (tVar 0) (tC (.int 2)) rSetL)) tNext)))) tNext)
    t__law_draw2)
/-- _law_shuffled: 0 _law_hand_here, 1 _law_things, 2 _law_left, 3 _law_found -/
def t__law_shuffled (K : PySem.W.Frag) : TS :=
  (tSeq (tAsg (tCB rLstF (tCons (tVar 1) tNil)) (gName 2))
    (tSeq (tAsg (tLst tNil) (gName 3))
    (tSeq (tWhile (tTest (tOp rGtI (tCB rLenF (tCons (tVar 2) tNil)) (tC (.int 0))))
    (tDrop (tBM K "list" rAppend (tVar 3) (tCons (tBM K "list" rPopAt (tVar 2) (tCons (tCall sp__law_draw [] E0 (tCons (tVar 0) (tCons (tCB rLenF (tCons (tVar 2) tNil)) tNil))) tNil)) tNil))))
    (tRet (tVar 3)))))
/-- _law_needs: 0 _law_hand_here, 1 _law_things, 2 _law_found, 3 _law_turn, 4 _law_one -/
def t__law_needs (K : PySem.W.Frag) : TS :=
  (tSeq (tAsg (tLst tNil) (gName 2))
    (tSeq (tFor (iRng1 (tCons (tOp rIxF (tLst (tCons (tC (.int 1)) (tCons (tC (.int 1)) (tCons (tC (.int 2)) (tCons (tC (.int 2)) (tCons (tC (.int 3)) (tCons (tC (.int 5)) tNil))))))) (tCall sp__law_draw [] E0 (tCons (tVar 0) (tCons (tC (.int 6)) tNil)))) tNil)) (gName 3)
    (tSeq (tAsg (tOp rIxF (tVar 1) (tCall sp__law_draw [] E0 (tCons (tVar 0) (tCons (tCB rLenF (tCons (tVar 1) tNil)) tNil)))) (gName 4))
    (tIfS (tTest (tOp (rInF true) (tVar 4) (tVar 2))) (tDrop (tBM K "list" rAppend (tVar 2) (tCons (tVar 4) tNil))) tNext)))
    (tRet (tVar 2))))
end Un
namespace Un
open PySem L2 PySem.Spec PyProof.Rows
local macro_rules | `(tactic| tm_at "s") => `(tactic| with_reducible first
  | refine s_seq ?_ | (refine s_asg ?_; dsimp only [List.set]) | refine s_asgG ?_ | refine g_sub ?_ | refine s_sl ?_ | refine s_noPart ?_ | refine s_part ?_ | refine s_bm ?_ | refine s_isB ?_ | refine s_notB ?_ | refine s_next ?_ | refine s_ret ?_ | refine s_drop ?_ | refine s_ifs ?_ | refine s_brk ?_ | refine s_cont ?_ | refine s_retN ?_
  | refine s_var rfl ?_ | refine s_c ?_ | refine s_op ?_ | refine s_cons ?_ | refine s_nil ?_ | refine s_call ?_ | refine s_CB ?_ | refine s_un ?_
  | refine s_test ?_ | refine s_tB ?_ | refine s_k ?_ | refine s_not ?_ | refine s_and ?_ | refine s_or ?_ | refine s_notV ?_ | refine s_andV ?_ | refine s_orV ?_ | refine s_if ?_
  | refine s_add ?_ | refine s_sub ?_ | refine s_lt ?_ | refine s_le ?_ | refine s_gt ?_ | refine s_ge ?_ | refine s_eqI ?_ | refine s_neI ?_ | refine s_band ?_ | refine s_bor ?_ | refine s_neg ?_ | refine s_inv ?_
  | refine s_isN ?_ | refine s_notN ?_ | refine s_int1 ?_ | refine s_abs ?_ | refine s_min2 ?_ | refine s_max2 ?_
  | refine s_tup ?_ | refine s_lst ?_ | refine s_chain ?_ | refine s_truI ?_ | refine s_ki ?_ | refine s_sfld ?_ | refine s_fld ?_ | refine g_cons ?_ | refine g_nil ?_ | (refine g_name ?_; dsimp only [List.set]) | refine s_isD (by decide) (by assumption) ?_)
local macro_rules | `(tactic| tm_at "go") => `(tactic| repeat' (tm_at "s"))
variable {K : PySem.W.Frag}
theorem Stp.five {a c : Addr} {G0 H0 G H : Hp} {cells : List Int} {i : Nat} {big s t : Int} (st : Stp a G0 H0 G H) (hc : G c = some (.lst (cells.map V.int))) : Stp a G0 H0 G (upd H a (.lst [.ref c, .int (i : Int), .int big, .int s, .int t])) :=
  have r := st.run.put (p := a) (o := .lst [.ref c, .int (i : Int), .int big, .int s, .int t]) st.hand.out (.inr rfl)
  ⟨r, ⟨⟨c, cells, i, big, s, t, hc, upd_same⟩, st.hand.out, r.gh⟩⟩
theorem draw2 {a c : Addr} {G H H1 : Hp} {cells : List Int} {i : Nat} {big s t x : Int} {z2 : Option V} {Q : VK} (st : Stp a G H G H1) (hc : G c = some (.lst (cells.map V.int))) (ha : H1 a = some (.lst [.ref c, .int (i : Int), .int big, .int s, .int t]))
    (hx : 0 < x) (hx2 : x < 1073741824) (k : ∀ (d : Nat) H', (d : Int) < x → Stp a G H G H' → Q (.int (d : Int)) H') : t__law_draw2 { nx := fun _ H' => Q .non H', rt := Q } [some (.ref a), some (.int x), z2, none, none] H1 := by
  have fin : ∀ (y : Int) H', Stp a G H G H' → Q (.int (y % x)) H' := fun y H' h => by
    have h0 := Int.emod_nonneg y (by omega : x ≠ 0)
    have h1 := Int.emod_lt_of_pos y hx
    have := k (y % x).toNat H' (by omega) h
    rw [Int.toNat_of_nonneg h0] at this
    exact this
  unfold t__law_draw2
  tm_at "go"
  refine s_ixL ha rfl ?_
  tm_at "go"
  refine s_ited (fun h1 => ?_) fun h1 => ?_
  · tm_at "go"
    refine s_ixL ha rfl ?_
    tm_at "go"
    refine s_mod hx ?_
    tm_at "go"
    refine s_ixL ha rfl ?_
    tm_at "go"
    refine s_div ⟨hx, hx2⟩ ?_
    tm_at "go"
    refine s_setL (j := 2) ha rfl ?_
    dsimp only [List.set]
    tm_at "go"
    exact fin big _ (st.five hc)
  · tm_at "go"
    refine s_ixL ha rfl ?_
    tm_at "go"
    refine s_setL (j := 4) ha rfl ?_
    have st2 := st.five (i := i) (big := big) (s := s) (t := t + 1) hc
    dsimp only [List.set]
    tm_at "go"
    refine s_ixL upd_same rfl ?_
    tm_at "go"
    refine s_ixL upd_same rfl ?_
    refine s_mul (.inl ⟨by decide, by decide⟩) ?_
    tm_at "go"
    refine s_mul (.inr ⟨by decide, by decide⟩) ?_
    tm_at "go"
    refine s_mod (by decide) ?_
    tm_at "go"
    have b1 : ∀ y : Int, 0 ≤ y % 2147483647 ∧ y % 2147483647 < 2147483647 := fun y => ⟨Int.emod_nonneg y (by decide), Int.emod_lt_of_pos y (by decide)⟩
    generalize hn1 : (s + 7919 * (t + 1)) * 48271 % 2147483647 = n1
    have b2 := b1 ((s + 7919 * (t + 1)) * 48271)
    rw [hn1] at b2
    refine s_div ⟨by decide, by decide⟩ ?_
    tm_at "go"
    refine s_mul (.inl ⟨by omega, by omega⟩) ?_
    tm_at "go"
    refine s_mod (by decide) ?_
    tm_at "go"
    generalize hn2 : n1 * (n1 / 1009 + 69621) % 2147483647 = n2
    have b3 := b1 (n1 * (n1 / 1009 + 69621))
    rw [hn2] at b3
    refine s_div ⟨by decide, by decide⟩ ?_
    tm_at "go"
    refine s_mul (.inl ⟨by omega, by omega⟩) ?_
    tm_at "go"
    refine s_mod (by decide) ?_
    tm_at "go"
    refine s_div ⟨by decide, by decide⟩ ?_
    tm_at "go"
    refine s_mod hx ?_
    exact fin _ _ st2
theorem pure__law_draw (vs : List V) (H : Hp) (Q : VK) (E : XK) (h : sp__law_draw vs H Q E) : t__law_draw { nx := fun _ H' => Q .non H', rt := Q } (start ["_law_hand_here", "_law_many", "_law_cell", "_law_digit", "_law_number"] vs) H := by
  obtain ⟨a, x, G, rfl, hh, hx, hx2, k⟩ := h
  obtain ⟨c, cells, i, big, s, t, hc, ha⟩ := hh.ex
  have hcH := hh.same _ _ hc
  show t__law_draw _ [some (.ref a), some (.int x), none, none, none] H
  unfold t__law_draw
  tm_at "go"
  refine s_ixL ha rfl ?_
  tm_at "go"
  have st0 := Stp.refl hh
  refine s_ited (fun h1 => ?_) fun h1 => ?_
  · tm_at "go"
    refine s_ixL ha rfl ?_
    tm_at "go"
    refine s_ixL ha rfl ?_
    tm_at "go"
    refine s_lenL hcH ?_
    tm_at "go"
    refine s_ited (fun h2 => ?_) fun h2 => ?_
    · tm_at "go"
      have hi : i < cells.length := by
        rw [List.length_map] at h2
        omega
      refine s_ixL ha rfl ?_
      tm_at "go"
      refine s_ixL ha rfl ?_
      refine s_ixL hcH (v := .int cells[i]) (by rw [atI_nat, List.getElem?_map, List.getElem?_eq_getElem hi]; rfl) ?_
      tm_at "go"
      refine s_ixL ha rfl ?_
      tm_at "go"
      refine s_setL (j := 1) ha rfl ?_
      have e1 : ((i : Int) + 1) = ((i + 1 : Nat) : Int) := by omega
      dsimp only [List.set]
      rw [e1]
      have st1 := st0.five (i := i + 1) (big := big) (s := s) (t := t) hc
      tm_at "go"
      refine s_ixL upd_same rfl ?_
      tm_at "go"
      refine s_mul (.inr ⟨by decide, by decide⟩) ?_
      tm_at "go"
      refine s_mod (by decide) ?_
      generalize (s * 69621 + cells[i] + 11) % 2147483629 = s2
      tm_at "go"
      refine s_setL (j := 3) upd_same rfl ?_
      have st2 := st1.five (i := i + 1) (big := big) (s := s2) (t := t) hc
      dsimp only [List.set]
      tm_at "go"
      refine s_pow ⟨by decide, by decide, by decide⟩ ?_
      tm_at "go"
      refine s_ited (fun h3 => ?_) fun h3 => ?_
      · tm_at "go"
        refine s_setL (j := 2) upd_same rfl ?_
        dsimp only [List.set]
        exact draw2 (st2.five (i := i + 1) (big := cells[i]) (s := s2) (t := t) hc) hc upd_same hx hx2 k
      · tm_at "go"
        exact draw2 st2 hc upd_same hx hx2 k
    · tm_at "go"
      exact draw2 st0 hc ha hx hx2 k
  · refine iteF ?_
    tm_at "go"
    exact draw2 st0 hc ha hx hx2 k
end Un
namespace Un
open PySem L2 PySem.Spec PyProof.Rows
local macro_rules | `(tactic| tm_at "s") => `(tactic| with_reducible first
  | refine s_seq ?_ | (refine s_asg ?_; dsimp only [List.set]) | refine s_asgG ?_ | refine g_sub ?_ | refine s_sl ?_ | refine s_noPart ?_ | refine s_part ?_ | refine s_bm ?_ | refine s_isB ?_ | refine s_notB ?_ | refine s_next ?_ | refine s_ret ?_ | refine s_drop ?_ | refine s_ifs ?_ | refine s_brk ?_ | refine s_cont ?_ | refine s_retN ?_
  | refine s_var rfl ?_ | refine s_c ?_ | refine s_op ?_ | refine s_cons ?_ | refine s_nil ?_ | refine s_call ?_ | refine s_CB ?_ | refine s_un ?_
  | refine s_test ?_ | refine s_tB ?_ | refine s_k ?_ | refine s_not ?_ | refine s_and ?_ | refine s_or ?_ | refine s_notV ?_ | refine s_andV ?_ | refine s_orV ?_ | refine s_if ?_
  | refine s_add ?_ | refine s_sub ?_ | refine s_lt ?_ | refine s_le ?_ | refine s_gt ?_ | refine s_ge ?_ | refine s_eqI ?_ | refine s_neI ?_ | refine s_band ?_ | refine s_bor ?_ | refine s_neg ?_ | refine s_inv ?_
  | refine s_isN ?_ | refine s_notN ?_ | refine s_int1 ?_ | refine s_abs ?_ | refine s_min2 ?_ | refine s_max2 ?_
  | refine s_tup ?_ | refine s_lst ?_ | refine s_chain ?_ | refine s_truI ?_ | refine s_ki ?_ | refine s_sfld ?_ | refine s_fld ?_ | refine g_cons ?_ | refine g_nil ?_ | (refine g_name ?_; dsimp only [List.set]) | refine s_isD (by decide) (by assumption) ?_)
local macro_rules | `(tactic| tm_at "go") => `(tactic| repeat' (tm_at "s"))
variable {K : PySem.W.Frag}
def absN (n : Int) : Int := if n < 0 then -n else n
def absI : Option V → Int
  | some (V.int n) => absN n
  | _ => 0
theorem pure__law_hand (vs : List V) (H : Hp) (Q : VK) (E : XK) (h : sp__law_hand K vs H Q E) : t__law_hand K { nx := fun _ H' => Q .non H', rt := Q } (start ["_law_script", "_law_cells", "_law_cell"] vs) H := by
  obtain ⟨b, ns, rfl, hb, k⟩ := h
  show t__law_hand K _ [some (.ref b), none, none] H
  unfold t__law_hand
  refine s_seq (s_asg (s_lcLx ?_))
  tm_at "go"
  refine ⟨b, _, rfl, hb, fun q hq => ?_⟩
  generalize hcut : cutV (ns.map V.int) none (some 63) = xs
  have hxl : xs.length ≤ 63 := by
    rw [← hcut, show (63 : Int) = ((63 : Nat) : Int) from rfl, cut_to, List.length_take]
    exact Nat.min_le_left _ _
  have hxi : ∀ (i : Nat) (x : V), xs[i]? = some x → ∃ n : Int, x = V.int n := fun i x h => by
    rw [← hcut, show (63 : Int) = ((63 : Nat) : Int) from rfl, cut_to] at h
    have := List.mem_of_mem_take (List.mem_of_getElem? h)
    obtain ⟨n, _, rfl⟩ := List.mem_map.mp this
    exact ⟨n, rfl⟩
  refine s_lcL (fun _ => true) (fun i => V.int (absI xs[i]?)) upd_same (by omega) (fun _ q => q) (fun i x hi H1 P N e1 h1 h2 => ?_) fun p H1 hp e1 hp1 => ?_
  · obtain ⟨n, rfl⟩ := hxi i x hi
    refine g_slot ⟨rfl, ?_⟩
    have goal : tCB rAbs (tCons (tCB rInt1 (tCons (tVar 2) tNil)) tNil) [some (.ref b), none, some (.int n)] H1 P := ?_
    · exact goal
    tm_at "go"
    have := h1 rfl H1 (.refl _)
    simp only [hi] at this
    exact this
  · dsimp only [List.set]
    rw [lcOut_all] at hp1
    obtain ⟨cells, hcells⟩ : ∃ cells : List Int, (List.range xs.length).map (fun i => V.int (absI xs[i]?)) = cells.map V.int := by
      refine ⟨(List.range xs.length).map (fun i => absI xs[i]?), ?_⟩
      rw [List.map_map]
      rfl
    rw [hcells] at hp1
    tm_at "go"
    refine s_lenL hp1 ?_
    tm_at "go"
    refine ⟨by show 5 ≤ sizeLine; rw [sizeLine_eq]; decide, fun a ha => ?_⟩
    have f : Same H H1 := (L2.Same.new hq).trans e1
    refine k a H1 _ (f.free ha) f ⟨⟨p, cells, 0, 0, _, 0, hp1, upd_same⟩, ha, L2.Same.new ha⟩
theorem perm_erase {α : Type} : ∀ {xs : List α} {k : Nat} {y : α}, xs[k]? = some y → (y :: xs.eraseIdx k).Perm xs
  | [], _, _, h => by simp at h
  | x :: xs, 0, y, h => by
    simp at h
    subst h
    exact .refl _
  | x :: xs, k + 1, y, h => by
    have := perm_erase (xs := xs) (k := k) (y := y) (by simpa using h)
    exact (List.Perm.swap x y _).trans (this.cons x)
def lenAt (q : Addr) (H : Hp) : Nat := match H q with | some (.lst xs) => xs.length | _ => 0
theorem lenAt_eq {q : Addr} {H : Hp} {xs : List V} (h : H q = some (.lst xs)) : lenAt q H = xs.length := by unfold lenAt; simp only [h]
theorem pure__law_shuffled (vs : List V) (H : Hp) (Q : VK) (E : XK) (h : sp__law_shuffled vs H Q E) : t__law_shuffled K { nx := fun _ H' => Q .non H', rt := Q } (start ["_law_hand_here", "_law_things", "_law_left", "_law_found"] vs) H := by
  obtain ⟨a, b, xs, G, rfl, hh, hb, hba, hl, k⟩ := h
  show t__law_shuffled K _ [some (.ref a), some (.ref b), none, none] H
  unfold t__law_shuffled
  tm_at "go"
  refine s_lstL hb fun q hq => ?_
  have s1 := (Stp.refl hh).new (o := .lst xs) hq
  have hqa := hh.ne hq
  tm_at "go"
  refine ⟨by rw [sizeLine_eq]; decide, fun r hr => ?_⟩
  have s2 := s1.new (o := .lst []) hr
  have hra := s1.hand.ne hr
  have hrq : r ≠ q := fun e => by rw [e, upd_same] at hr; cases hr
  have hr0 : H r = none := s1.free hr
  have gq : G q = none := gfree hh.same hq
  have gr : G r = none := gfree hh.same hr0
  tm_at "go"
  refine s_whileLen (fun σ H1 => ∃ L F, σ = [some (.ref a), some (.ref b), some (.ref q), some (.ref r)] ∧ Stp a G H G H1 ∧ H1 q = some (.lst L) ∧ H1 r = some (.lst F) ∧ (F ++ L).Perm xs)
    (fun _ H1 => lenAt q H1) ⟨xs, [], rfl, s2, by rw [upd_ne (Ne.symm hrq), upd_same], upd_same, .refl _⟩ ?_
  rintro σ H1 ⟨L, F, rfl, st, hL, hF, hp⟩
  have hlen : F.length + L.length = xs.length := by
    have := hp.length_eq
    rwa [List.length_append] at this
  refine ⟨q, L, rfl, hL, fun hne => ?_, fun he => ?_⟩
  · have hpos : 0 < L.length := List.length_pos_iff.mpr hne
    tm_at "go"
    refine s_tyL hF ?_
    tm_at "go"
    refine s_tyL hL ?_
    tm_at "go"
    refine s_lenL hL ?_
    tm_at "go"
    refine ⟨a, _, G, rfl, st.hand, by omega, by omega, fun d H2 hd st2 => ?_⟩
    have hL2 := st2.kp hL hqa
    have hF2 := st2.kp hF hra
    have hdl : d < L.length := by omega
    tm_at "go"
    have hd0 : (0 : Int) ≤ (d : Int) := Int.natCast_nonneg d
    refine ⟨q, L, (d : Int), d, L[d], rfl, rfl, hL2, by omega, by omega, by rw [seqIndex_of hd0 (by omega), Int.toNat_natCast], List.getElem?_eq_getElem hdl, ?_⟩
    have st3 := (st.call st2).put (p := q) (o := .lst (L.eraseIdx d)) gq hq hqa
    have hF3 : (upd H2 q (.lst (L.eraseIdx d))) r = some (.lst F) := by rw [upd_ne hrq]; exact hF2
    tm_at "go"
    refine s_app hF3 (by omega) ?_
    have st4 := st3.put (p := r) (o := .lst (F ++ [L[d]])) gr hr0 hra
    have hq4 : (upd (upd H2 q (.lst (L.eraseIdx d))) r (.lst (F ++ [L[d]]))) q = some (.lst (L.eraseIdx d)) := by rw [upd_ne (Ne.symm hrq), upd_same]
    tm_at "go"
    refine ⟨⟨L.eraseIdx d, F ++ [L[d]], rfl, st4, hq4, upd_same, ?_⟩, ?_⟩
    · rw [List.append_assoc]
      exact ((perm_erase (List.getElem?_eq_getElem hdl)).append_left F).trans hp
    · rw [lenAt_eq hq4, lenAt_eq hL, List.length_eraseIdx_of_lt hdl]
      omega
  · subst he
    rw [List.append_nil] at hp
    tm_at "go"
    exact k F r H1 hp hr0 st hF
theorem pure__law_needs (vs : List V) (H : Hp) (Q : VK) (E : XK) (h : sp__law_needs vs H Q E) : t__law_needs K { nx := fun _ H' => Q .non H', rt := Q } (start ["_law_hand_here", "_law_things", "_law_found", "_law_turn", "_law_one"] vs) H := by
  obtain ⟨a, b, pool, G, rfl, hh, hb, hba, hne, hpl, k⟩ := h
  have hpos : 0 < pool.length := List.length_pos_iff.mpr hne
  show t__law_needs K _ [some (.ref a), some (.ref b), none, none, none] H
  unfold t__law_needs
  tm_at "go"
  refine ⟨by rw [sizeLine_eq]; decide, fun r hr => ?_⟩
  have s1 := (Stp.refl hh).new (o := .lst []) hr
  have hra := hh.ne hr
  have gr : G r = none := gfree hh.same hr
  have hbr : b ≠ r := fun e => by rw [e, hr] at hb; cases hb
  tm_at "go"
  refine s_forRx ?_
  tm_at "go"
  refine ⟨by rw [sizeLine_eq]; decide, fun r2 hr2 => ?_⟩
  have s2 := s1.new (o := .lst [.int 1, .int 1, .int 2, .int 2, .int 3, .int 5]) hr2
  have hr2r : r2 ≠ r := fun e => by rw [e, upd_same] at hr2; cases hr2
  tm_at "go"
  refine ⟨a, 6, G, rfl, s2.hand, by decide, by decide, fun d H2 hd st2 => ?_⟩
  have h2r := st2.kp (p := r2) upd_same (s1.hand.ne hr2)
  have hr1 : H2 r = some (.lst []) := st2.kp (by rw [upd_ne (Ne.symm hr2r), upd_same]) hra
  have st3 := s2.call st2
  obtain ⟨n, hn, hn1, hn5⟩ : ∃ n : Nat, atI [V.int 1, .int 1, .int 2, .int 2, .int 3, .int 5] (d : Int) = some (.int (n : Int)) ∧ 1 ≤ n ∧ n ≤ 5 := by
    have : d = 0 ∨ d = 1 ∨ d = 2 ∨ d = 3 ∨ d = 4 ∨ d = 5 := by omega
    rcases this with rfl | rfl | rfl | rfl | rfl | rfl
    · exact ⟨1, rfl, by decide, by decide⟩
    · exact ⟨1, rfl, by decide, by decide⟩
    · exact ⟨2, rfl, by decide, by decide⟩
    · exact ⟨2, rfl, by decide, by decide⟩
    · exact ⟨3, rfl, by decide, by decide⟩
    · exact ⟨5, rfl, by decide, by decide⟩
  refine s_ixL h2r hn ?_
  tm_at "go"
  refine s_forR n (fun i σ H1 => ∃ (x y : Option V) (ns : List Nat), σ = [some (.ref a), some (.ref b), some (.ref r), x, y] ∧ Stp a G H G H1 ∧ H1 r = some (.lst (vN ns)) ∧ ns.Nodup ∧ (∀ n ∈ ns, n ∈ pool) ∧ (0 < i → ns ≠ []) ∧ ns.length ≤ i)
    (by omega) ⟨none, none, [], rfl, st3, hr1, .nil, fun _ h => (nomatch h), fun h => absurd h (Nat.lt_irrefl _), Nat.le_refl _⟩ ?_ ?_ fun _ q => q
  · rintro i σ H1 hi ⟨x, y, ns, rfl, st, hr1, hnd, hin, hnn, hnl⟩
    show tSeq _ _ _ [some (.ref a), some (.ref b), some (.ref r), some (.int (i : Nat)), y] H1
    tm_at "go"
    have hb1 := st.kp hb hba
    refine s_lenL hb1 ?_
    tm_at "go"
    rw [vN_len]
    refine ⟨a, _, G, rfl, st.hand, by omega, by omega, fun d H2 hd st2 => ?_⟩
    have hdl : d < pool.length := by omega
    refine s_ixL (st2.kp hb1 hba) (atI_vN hdl) ?_
    have hr2 := st2.kp hr1 hra
    have st4 := st.call st2
    tm_at "go"
    refine s_inL hr2 ?_
    tm_at "go"
    refine s_itend (fun h1 => ?_) fun h1 => ?_
    · tm_at "go"
      refine s_tyL hr2 ?_
      tm_at "go"
      refine s_app hr2 (by rw [vN_len]; omega) ?_
      tm_at "go"
      have st5 := st4.put (p := r) (o := .lst (vN ns ++ [.int (pool[d] : Nat)])) gr hr hra
      refine ⟨_, _, ns ++ [pool[d]], rfl, st5, ?_, ?_, ?_, ?_, ?_⟩
      · rw [upd_same]
        unfold vN
        rw [List.map_append]
        rfl
      · exact List.nodup_append.mpr ⟨hnd, by simp, fun u hu v hv => by
          have e : v = pool[d] := by simpa using hv
          rw [e]
          rintro rfl
          exact h1 hu⟩
      · intro u hu
        rcases List.mem_append.mp hu with hu | hu
        · exact hin u hu
        · have e : u = pool[d] := by simpa using hu
          rw [e]
          exact List.getElem_mem hdl
      · intro _ e
        simp at e
      · rw [List.length_append]
        exact Nat.succ_le_succ hnl
    · tm_at "go"
      refine ⟨_, _, ns, rfl, st4, hr2, hnd, hin, fun _ e => ?_, by omega⟩
      rw [e] at h1
      cases h1
  · rintro σ H1 ⟨x, y, ns, rfl, st, hr1, hnd, hin, hnn, hnl⟩
    tm_at "go"
    exact k ns r H1 (hnn (by omega)) hnd hin hr st hr1
end Un
/-! Kitchens that the law draws. -/
namespace Un
open PySem L2 PySem.Spec PyProof.Rows
def rowD (r : Rec) : PyData := .tuple [.list (dN r.1), .int (r.2 : Int)]
def RowOk (m f : Nat) (r : Rec) : Prop := r.1 ≠ [] ∧ r.1.Nodup ∧ (∀ n ∈ r.1, n < m) ∧ r.2 < m ∧ f ≤ r.2 ∧ r.2 ∉ r.1
def Mak (f : Nat) (rows : List Rec) (g : Nat) : Prop := ∀ S : Nat → Prop, (∀ i, i < f → S i) → (∀ r ∈ rows, (∀ n ∈ r.1, S n) → S r.2) → S g
/-- parts as the kitchen draws them -/
structure Kit (m : Nat) (gv : List Nat) (rs : List Rec) (gl : List Nat) : Prop where
  m3 : 3 ≤ m
  m40 : m ≤ 40
  gvOk : LotN m gv
  gv0 : gv ≠ []
  rsOk : ∀ r ∈ rs, RecN m gv r
  rs0 : rs ≠ []
  rsl : rs.length ≤ 40
  glOk : GoalsOk m gv rs (lotD gl)
def partsD (m : Nat) (gv : List Nat) (rs : List Rec) (gl : List Nat) : List PyData := [.int (m : Int), lotD gv, recsD rs, lotD gl]
def pg (π : List Nat) (n : Nat) : Nat := (π[n]?).getD 0
def Ren (π : List Nat) (r r' : Rec) : Prop := r'.1.Perm (r.1.map (pg π)) ∧ r'.1.Pairwise (· ≤ ·) ∧ r'.2 = pg π r.2
def sp__law_renamed : Sp := fun vs H Q _ => ∃ (a b c : Addr) (m f : Nat) (xs : List V) (rows : List Rec) (goals : List Nat) (G : Hp), vs = [.ref a, .int (m : Int), .int (f : Int), .ref b, .ref c] ∧ HandAt G H a ∧ H b = some (.lst xs) ∧ b ≠ a ∧ RpAll G (rows.map rowD) xs ∧
  H c = some (.lst (vN goals)) ∧ c ≠ a ∧ 3 ≤ m ∧ m ≤ 40 ∧ 1 ≤ f ∧ f ≤ m ∧ (∀ r ∈ rows, RowOk m f r) ∧ rows ≠ [] ∧ rows.length ≤ 40 ∧ goals ≠ [] ∧ goals.Nodup ∧ (∀ g ∈ goals, f ≤ g ∧ g < m ∧ Mak f rows g) ∧
  ∀ m' gv rs gl p G' H', Kit m' gv rs gl → Stp a G H G' H' → Rp G' (.tuple (partsD m' gv rs gl)) (.ref p) → Q (.ref p) H'
def sp__law_kitchen : Sp := fun vs H Q _ => ∃ (a : Addr) (T R : Nat) (G : Hp), vs = [.ref a, .int (T : Int), .int (R : Int)] ∧ HandAt G H a ∧ 5 ≤ T ∧ T ≤ 40 ∧ R ≤ 40 ∧
  ∀ m' gv rs gl p G' H', Kit m' gv rs gl → Stp a G H G' H' → Rp G' (.tuple (partsD m' gv rs gl)) (.ref p) → Q (.ref p) H'
theorem perm_map_inv {α β : Type} {f : α → β} {ys zs : List β} (p : ys.Perm zs) : ∀ {l : List α}, zs = l.map f → ∃ l' : List α, l'.Perm l ∧ ys = l'.map f := by
  induction p with
  | nil =>
    intro l h
    rw [List.map_eq_nil_iff.mp h.symm]
    exact ⟨[], .refl _, rfl⟩
  | @cons x l1 l2 p ih =>
    intro l h
    cases l with
    | nil => cases h
    | cons a l =>
      rw [List.map_cons] at h
      obtain ⟨rfl, h2⟩ := List.cons.inj h
      obtain ⟨l', q1, q2⟩ := ih h2
      exact ⟨a :: l', q1.cons a, by rw [q2, List.map_cons]⟩
  | @swap x y l1 =>
    intro l h
    cases l with
    | nil => cases h
    | cons a l =>
      cases l with
      | nil =>
        rw [List.map_cons] at h
        have := (List.cons.inj h).2
        cases this
      | cons b l =>
        rw [List.map_cons, List.map_cons] at h
        obtain ⟨rfl, h2⟩ := List.cons.inj h
        obtain ⟨rfl, rfl⟩ := List.cons.inj h2
        exact ⟨b :: a :: l, .swap .., rfl⟩
  | trans p1 p2 ih1 ih2 =>
    intro l h
    obtain ⟨l1, q1, q2⟩ := ih2 h
    obtain ⟨l2, q3, q4⟩ := ih1 q2
    exact ⟨l2, q3.trans q1, q4⟩
theorem perm_vN {ys : List V} {ns : List Nat} (p : ys.Perm (vN ns)) : ∃ ms, ms.Perm ns ∧ ys = vN ms := perm_map_inv p rfl
section
variable {m : Nat} {π : List Nat} (h : π.Perm (List.range m))
include h
theorem pg_len : π.length = m := by rw [h.length_eq, List.length_range]
theorem pg_lt {n : Nat} (hn : n < m) : pg π n < m := by
  have hl := pg_len h
  unfold pg
  rw [List.getElem?_eq_getElem (by omega), Option.getD_some]
  exact List.mem_range.mp (h.mem_iff.mp (List.getElem_mem _))
theorem pg_inj {a b : Nat} (ha : a < m) (hb : b < m) (e : pg π a = pg π b) : a = b := by
  have hl := pg_len h
  have nd : π.Nodup := h.nodup_iff.mpr List.nodup_range
  have p := List.pairwise_iff_getElem.mp nd
  unfold pg at e
  rw [List.getElem?_eq_getElem (by omega), List.getElem?_eq_getElem (by omega), Option.getD_some, Option.getD_some] at e
  rcases Nat.lt_trichotomy a b with q | q | q
  · exact absurd e (p a b (by omega) (by omega) q)
  · exact q
  · exact absurd e.symm (p b a (by omega) (by omega) q)
theorem pg_take {f : Nat} (hf : f ≤ m) {x : Nat} : x ∈ π.take f ↔ ∃ i, i < f ∧ pg π i = x := by
  have hl := pg_len h
  constructor
  · intro q
    obtain ⟨i, hi⟩ := List.mem_iff_getElem?.mp q
    have hif : i < f := by
      have := (List.getElem?_eq_some_iff.mp hi).1
      rw [List.length_take] at this
      omega
    rw [List.getElem?_take_of_lt hif] at hi
    refine ⟨i, hif, ?_⟩
    unfold pg
    rw [hi]
    rfl
  · rintro ⟨i, hi, rfl⟩
    refine List.mem_iff_getElem?.mpr ⟨i, ?_⟩
    rw [List.getElem?_take_of_lt hi]
    unfold pg
    rw [List.getElem?_eq_getElem (by omega)]
    rfl
theorem pg_nodup {ns : List Nat} (hn : ∀ n ∈ ns, n < m) (nd : ns.Nodup) : (ns.map (pg π)).Nodup := by
  refine List.pairwise_map.mpr (nd.imp_of_mem fun {a b} ha hb hab e => hab (pg_inj h (hn a ha) (hn b hb) e))
theorem kit_ren {f : Nat} {rows es : List Rec} {goals gv gl : List Nat} (m3 : 3 ≤ m) (m40 : m ≤ 40) (f1 : 1 ≤ f) (fm : f ≤ m) (hr : ∀ r ∈ rows, RowOk m f r) (r0 : rows ≠ []) (rl : rows.length ≤ 40)
    (g0 : goals ≠ []) (gnd : goals.Nodup) (hg : ∀ g ∈ goals, f ≤ g ∧ g < m ∧ Mak f rows g) (pv : gv.Perm (π.take f)) (sv : gv.Pairwise (· ≤ ·)) (el : es.length = rows.length) (he : ∀ (j : Nat) r', es[j]? = some r' → ∃ r, rows[j]? = some r ∧ Ren π r r')
    (pgl : gl.Perm (goals.map (pg π))) (sg : gl.Pairwise (· ≤ ·)) : Kit m gv es gl := by
  have hl := pg_len h
  have gvm : ∀ x, x ∈ gv ↔ ∃ i, i < f ∧ pg π i = x := fun x => pv.mem_iff.trans (pg_take h fm)
  have glm : ∀ x, x ∈ gl ↔ ∃ g ∈ goals, pg π g = x := fun x => pgl.mem_iff.trans List.mem_map
  have nd : π.Nodup := h.nodup_iff.mpr List.nodup_range
  have eOk : ∀ r' ∈ es, RecN m gv r' := by
    intro r' hr'
    obtain ⟨j, hj⟩ := List.mem_iff_getElem?.mp hr'
    obtain ⟨r, h1, p1, p2, p3⟩ := he j r' hj
    obtain ⟨k1, k2, k3, k4, k5, k6⟩ := hr r (List.mem_of_getElem? h1)
    have hmem : ∀ n, n ∈ r'.1 ↔ ∃ n0 ∈ r.1, pg π n0 = n := fun n => p1.mem_iff.trans List.mem_map
    refine ⟨fun e => ?_, ⟨lt_of_le_nodup p2 (p1.nodup_iff.mpr (pg_nodup h k3 k2)), fun n hn => ?_⟩, ?_, fun hm => ?_, fun hm => ?_⟩
    · rw [e] at p1
      have := p1.length_eq
      rw [List.length_map] at this
      exact k1 (List.eq_nil_of_length_eq_zero this.symm)
    · obtain ⟨n0, q1, rfl⟩ := (hmem n).mp hn
      have := pg_lt h (k3 n0 q1)
      omega
    · rw [p3]
      have := pg_lt h k4
      omega
    · obtain ⟨n0, q1, q2⟩ := (hmem _).mp hm
      rw [p3] at q2
      have := pg_inj h (k3 n0 q1) k4 q2
      rw [this] at q1
      exact k6 q1
    · obtain ⟨i, q1, q2⟩ := (gvm _).mp hm
      rw [p3] at q2
      have := pg_inj h (by omega) k4 q2
      omega
  refine ⟨m3, m40, ⟨lt_of_le_nodup sv (pv.nodup_iff.mpr (nd.sublist (List.take_sublist _ _))), fun n hn => ?_⟩, fun e => ?_, eOk, fun e => ?_, by omega, ?_⟩
  · obtain ⟨i, q1, rfl⟩ := (gvm n).mp hn
    have := pg_lt h (n := i) (by omega)
    omega
  · have := pv.length_eq
    rw [e, List.length_take] at this
    simp at this
    omega
  · rw [e] at el
    exact r0 (List.eq_nil_of_length_eq_zero el.symm)
  · refine ⟨gl, rfl, ⟨lt_of_le_nodup sg (pgl.nodup_iff.mpr (pg_nodup h (fun n hn => (hg n hn).2.1) gnd)), fun n hn => ?_⟩, fun e => ?_, fun g hgm hv => ?_, fun R hR => ?_⟩
    · obtain ⟨g, q1, rfl⟩ := (glm n).mp hn
      have := pg_lt h (hg g q1).2.1
      omega
    · have := pgl.length_eq
      rw [e, List.length_map] at this
      exact g0 (List.eq_nil_of_length_eq_zero this.symm)
    · obtain ⟨g1, q1, rfl⟩ := (glm g).mp hgm
      obtain ⟨i, q3, q4⟩ := (gvm _).mp hv
      have := pg_inj h (by omega) (hg g1 q1).2.1 q4
      have := (hg g1 q1).1
      omega
    · intro x hx
      rw [bit_mk] at hx
      obtain ⟨g, q1, rfl⟩ := (glm x).mp (of_decide_eq_true hx)
      refine (hg g q1).2.2 (fun n => R.testBit (pg π n) = true) (fun i hi => ?_) fun r hrr hn => ?_
      · refine hR.base _ ?_
        rw [bit_mk]
        exact decide_eq_true ((gvm _).mpr ⟨i, hi, rfl⟩)
      · obtain ⟨j, hj⟩ := List.mem_iff_getElem?.mp hrr
        have hjl := (List.getElem?_eq_some_iff.mp hj).1
        obtain ⟨r', hr'⟩ : ∃ r', es[j]? = some r' := ⟨_, List.getElem?_eq_getElem (by omega)⟩
        obtain ⟨r2, h1, p1, p2, p3⟩ := he j r' hr'
        rw [hj] at h1
        cases h1
        have := hR.closed j r' hr' (by rw [Int.toNat_natCast, bit_full, p3]; exact decide_eq_true (pg_lt h (hr r hrr).2.2.2.1)) (Nat.zero_testBit _) fun n hn' => by
          obtain ⟨n0, k1, rfl⟩ := List.mem_map.mp (p1.mem_iff.mp hn')
          exact hn n0 k1
        rw [p3] at this
        exact this
end
/-! ### comprehensions over lots -/
theorem lcOut_nat (ns : List Nat) (c : Nat → Bool) (f : Nat → Nat) : ∀ n, n ≤ ns.length → lcOut (fun i => (ns[i]?.map c).getD false) (fun i => V.int (f ((ns[i]?).getD 0) : Nat)) n = vN (((ns.take n).filter c).map f)
  | 0, _ => by rw [List.take_zero]; rfl
  | n + 1, hn => by
    have hn' : ns[n]? = some ns[n] := List.getElem?_eq_getElem (by omega)
    rw [lcOut_succ, lcOut_nat ns c f n (by omega), List.take_succ, hn']
    show (if c ns[n] = true then _ else _) = vN (((ns.take n ++ [ns[n]]).filter c).map f)
    rw [List.filter_append, List.map_append]
    by_cases hc : c ns[n] = true
    · rw [if_pos hc]
      simp [hc, vN]
    · rw [if_neg hc]
      simp [hc, vN]
section
variable {K : PySem.W.Frag} {σ : L2.St} {H : Hp} {Q : VK} {te tx : TE} {tt : TT} {ta : TA} {g : TG} {vs : List Nat} {a : Addr} {ns : List Nat}
def NTurn (H : Hp) (g : TG) (tt : TT) (tx : TE) (vs : List Nat) (σ : L2.St) (c : Nat → Bool) (f : Nat → Nat) (n : Nat) : Prop :=
  ∀ (H1 : Hp) (P : VK) (N : Hp → Prop), Same H H1 → (c n = true → ∀ H4, Same H1 H4 → P (.int (f n : Nat)) H4) → (c n = false → ∀ H4, Same H1 H4 → N H4) →
    g (.int (n : Nat)) (wipe σ vs) H1 fun σ2 H2 => wipe σ2 vs = wipe σ vs ∧ tt σ2 H2 fun b H3 => if b = true then tx σ2 H3 P else N H3
theorem NTurn.lc {c : Nat → Bool} {f : Nat → Nat} {i n : Nat} (h : NTurn H g tt tx vs σ c f n) (hi : ns[i]? = some n) : LcTurn H g tt tx vs σ (fun i => (ns[i]?.map c).getD false) (fun i => V.int (f ((ns[i]?).getD 0) : Nat)) i (.int (n : Nat)) := by
  intro H1 P N e h1 h2
  simp only [hi, Option.map_some, Option.getD_some] at h1 h2
  exact h H1 P N e h1 h2
theorem s_lcNL (c : Nat → Bool) (f : Nat → Nat) (ha : H a = some (.lst (vN ns))) (hn : ns.length ≤ 100000) (he : ∀ Q : VK, Q (.ref a) H → te σ H Q) (hx : ∀ n ∈ ns, NTurn H g tt tx vs σ c f n)
    (k : ∀ p H1, H p = none → Same H H1 → H1 p = some (.lst (vN ((ns.filter c).map f))) → Q (.ref p) H1) : tLc (iList K te) g tt tx vs σ H Q := by
  refine s_lcL (fun i => (ns[i]?.map c).getD false) (fun i => V.int (f ((ns[i]?).getD 0) : Nat)) ha (by rw [vN_len]; exact hn) he (fun i x hi => ?_) fun p H1 hp e hp1 => k p H1 hp e ?_
  · unfold vN at hi
    rw [List.getElem?_map] at hi
    obtain ⟨n, h1, rfl⟩ := Option.map_eq_some_iff.mp hi
    exact (hx n (List.mem_of_getElem? h1)).lc h1
  · rw [vN_len, lcOut_nat ns c f _ (Nat.le_refl _), List.take_length] at hp1
    exact hp1
theorem s_lcNT (c : Nat → Bool) (f : Nat → Nat) (ha : H a = some (.tup (vN ns))) (hn : ns.length ≤ 100000) (he : ∀ Q : VK, Q (.ref a) H → te σ H Q) (hx : ∀ n ∈ ns, NTurn H g tt tx vs σ c f n)
    (k : ∀ p H1, H p = none → Same H H1 → H1 p = some (.lst (vN ((ns.filter c).map f))) → Q (.ref p) H1) : tLc (iTup K te) g tt tx vs σ H Q := by
  refine s_lcT (fun i => (ns[i]?.map c).getD false) (fun i => V.int (f ((ns[i]?).getD 0) : Nat)) ha (by rw [vN_len]; exact hn) he (fun i x hi => ?_) fun p H1 hp e hp1 => k p H1 hp e ?_
  · unfold vN at hi
    rw [List.getElem?_map] at hi
    obtain ⟨n, h1, rfl⟩ := Option.map_eq_some_iff.mp hi
    exact (hx n (List.mem_of_getElem? h1)).lc h1
  · rw [vN_len, lcOut_nat ns c f _ (Nat.le_refl _), List.take_length] at hp1
    exact hp1
theorem s_lcNR (c : Nat → Bool) (f : Nat → Nat) (n : Nat) (hn : n ≤ 100000) (he : ∀ Q : List V → Hp → Prop, Q [.int n] H → ta σ H Q) (hx : ∀ i, i < n → NTurn H g tt tx vs σ c f i)
    (k : ∀ p H1, H p = none → Same H H1 → H1 p = some (.lst (vN (((List.range n).filter c).map f))) → Q (.ref p) H1) : tLc (iRng1 ta) g tt tx vs σ H Q := by
  refine s_lcR (fun i => ((List.range n)[i]?.map c).getD false) (fun i => V.int (f (((List.range n)[i]?).getD 0) : Nat)) n hn he (fun i hi => ?_) fun p H1 hp e hp1 => k p H1 hp e ?_
  · exact (hx i hi).lc (List.getElem?_range hi)
  · have := lcOut_nat (List.range n) c f n (by rw [List.length_range]; exact Nat.le_refl _)
    rw [List.take_of_length_le (by rw [List.length_range]; exact Nat.le_refl _)] at this
    rw [this] at hp1
    exact hp1
end
theorem s_lstRg {te : L2.St → Hp → (Int → Int → Hp → Prop) → Prop} {σ : L2.St} {H : Hp} {Q : VK} (h : te σ H fun a b H1 => RgOk a b ∧ ∀ q, H1 q = none → Q (.ref q) (upd H1 q (.lst (rgV a b)))) : tLstRg te σ H Q := h
theorem s_tupRg {te : L2.St → Hp → (Int → Int → Hp → Prop) → Prop} {σ : L2.St} {H : Hp} {Q : VK} (h : te σ H fun a b H1 => RgOk a b ∧ ∀ q, H1 q = none → Q (.ref q) (upd H1 q (.tup (rgV a b)))) : tTupRg te σ H Q := h
theorem s_rg1 {ta : TE} {σ : L2.St} {H : Hp} {Q : Int → Int → Hp → Prop} (h : ta σ H fun x H1 => ∃ n, x = .int n ∧ Q 0 n H1) : tRg1 ta σ H Q := h
theorem s_rg2 {ta tb : TE} {σ : L2.St} {H : Hp} {Q : Int → Int → Hp → Prop} (h : ta σ H fun x H1 => tb σ H1 fun y H2 => ∃ i j, x = .int i ∧ y = .int j ∧ Q i j H2) : tRg2 ta tb σ H Q := h
end Un
namespace Un
open PySem L2 PySem.Spec PyProof.Rows
/-- _law_renamed: 0 _law_hand_here, 1 _law_many, 2 _law_first, 3 _law_rows, 4 _law_goals, 5 _law_number, 6 _law_recipes, 7 _law_lot, 8 _law_thing, 9 _law_one, 10 _law_goal -/
def t__law_renamed (K : PySem.W.Frag) : TS :=
  (tSeq (tAsg (tCall sp__law_shuffled [] E0 (tCons (tVar 0) (tCons (tLstRg (tRg1 (tVar 1))) tNil))) (gName 5))
    (tSeq (tAsg (tLc (iList K (tVar 3)) (gTup K 2 (gCons (gName 7) (gCons (gName 8) gNil))) tYes (tTup (tCons (tCB rTupF (tCons (tCB rSortedLP (tCons (tLc (iList K (tVar 7)) (gName 9) tYes (tOp rIxF (tVar 5) (tVar 9)) [9]) tNil)) tNil)) (tCons (tOp rIxF (tVar 5) (tVar 8)) tNil))) [7, 8]) (gName 6))
    (tRet (tTup (tCons (tVar 1) (tCons (tCB rTupF (tCons (tCB rSortedLP (tCons (tSl rSlLP (tVar 5) tNoPart (tPart (tVar 2))) tNil)) tNil)) (tCons (tCB rTupF (tCons (tVar 6) tNil)) (tCons (tCB rTupF (tCons (tCB rSortedLP (tCons (tLc (iList K (tVar 4)) (gName 10) tYes (tOp rIxF (tVar 5) (tVar 10)) [10]) tNil)) tNil)) tNil))))))))
def t_kitE : TS :=
  (tRet (tCall sp__law_renamed [] E0 (tCons (tVar 0) (tCons (tVar 3) (tCons (tVar 4) (tCons (tCall sp__law_shuffled [] E0 (tCons (tVar 0) (tCons (tVar 8) tNil))) (tCons (tVar 5) tNil)))))))
def t_kitL2 (K : PySem.W.Frag) : TS :=
  (tSeq (tAsg (tOp rAddI (tVar 4) (tCall sp__law_draw [] E0 (tCons (tVar 0) (tCons (tOp rSubI (tVar 3) (tVar 4)) tNil)))) (gName 9))
    (tSeq (tAsg (tLc (iRng1 (tCons (tVar 3) tNil)) (gName 14) (tOr (tTest (tOp rLtI (tVar 14) (tVar 9))) (tAnd (tB (tVar 7)) (tTest (tOp rNe (tVar 14) (tVar 9))))) (tVar 14) [14]) (gName 10))
    (tSeq (tAsg (tTup (tCons (tCall sp__law_needs [] E0 (tCons (tVar 0) (tCons (tVar 10) tNil))) (tCons (tVar 9) tNil))) (gName 12))
    (tSeq (tIfS (tTest (tOp rEq (tCall sp__law_draw [] E0 (tCons (tVar 0) (tCons (tC (.int 5)) tNil))) (tC (.int 0)))) (tAsg (tOp rIxF (tVar 8) (tCall sp__law_draw [] E0 (tCons (tVar 0) (tCons (tCB rLenF (tCons (tVar 8) tNil)) tNil)))) (gName 12)) tNext)
    (tDrop (tBM K "list" rAppend (tVar 8) (tCons (tVar 12) tNil)))))))
def t_kitL1 (K : PySem.W.Frag) : TS :=
  (tSeq (tAsg (tOp rCat (tLstRg (tRg1 (tVar 4))) (tLc (iList K (tVar 8)) (gTup K 2 (gCons (gName 13) (gCons (gName 14) gNil))) tYes (tVar 14) [13, 14])) (gName 10))
    (tSeq (tIfS (tB (tVar 6)) (tAsg (tSl rSlLP (tVar 10) (tPart (tUn rNeg (tC (.int 2)))) tNoPart) (gName 10)) tNext)
    (tDrop (tBM K "list" rAppend (tVar 8) (tCons (tTup (tCons (tCall sp__law_needs [] E0 (tCons (tVar 0) (tCons (tVar 10) tNil))) (tCons (tVar 9) tNil))) tNil)))))
def t_kit3 (K : PySem.W.Frag) : TS :=
  (tSeq (tFor (iRng1 (tCons (tCall sp__law_draw [] E0 (tCons (tVar 0) (tCons (tOp rAddI (tCB rMax2 (tCons (tC (.int 1)) (tCons (tOp rSubI (tVar 2) (tCB rLenF (tCons (tVar 8) tNil))) tNil))) (tC (.int 1))) tNil))) tNil)) (gName 11)
    (t_kitL2 K))
    t_kitE)
def t_kit2 (K : PySem.W.Frag) : TS :=
  (tSeq (tFor (iRng2 (tCons (tVar 4) (tCons (tVar 3) tNil))) (gName 9)
    (tIfS (tOr (tTest (tOp (rInF false) (tVar 9) (tVar 5))) (tOr (tB (tVar 6)) (tTest (tOp rGtI (tCall sp__law_draw [] E0 (tCons (tVar 0) (tCons (tC (.int 6)) tNil))) (tC (.int 0)))))) (t_kitL1 K) tNext))
    (t_kit3 K))
def t_kit1 (K : PySem.W.Frag) : TS :=
  (tSeq (tAsg (tOp rEq (tCall sp__law_draw [] E0 (tCons (tVar 0) (tCons (tC (.int 3)) tNil))) (tC (.int 0))) (gName 6))
    (tSeq (tAsg (tOp rEq (tCall sp__law_draw [] E0 (tCons (tVar 0) (tCons (tC (.int 2)) tNil))) (tC (.int 0))) (gName 7))
    (tSeq (tAsg (tLst tNil) (gName 8))
    (t_kit2 K))))
/-- _law_kitchen: 0 _law_hand_here, 1 _law_things, 2 _law_recipes, 3 _law_many, 4 _law_first, 5 _law_goals, 6 _law_deep, 7 _law_wild, 8 _law_found, 9 _law_thing, 10 _law_pool, 11 _law_turn, 12 _law_row, 13 _law_lot, 14 _law_one -/
def t__law_kitchen (K : PySem.W.Frag) : TS :=
  (tSeq (tAsg (tOp rAddI (tC (.int 3)) (tCall sp__law_draw [] E0 (tCons (tVar 0) (tCons (tOp rSubI (tVar 1) (tC (.int 2))) tNil)))) (gName 3))
    (tSeq (tAsg (tOp rAddI (tC (.int 1)) (tCB rMin2 (tCons (tOp rSubI (tVar 3) (tC (.int 3))) (tCons (tOp rIxF (tLst (tCons (tC (.int 0)) (tCons (tC (.int 0)) (tCons (tC (.int 0)) (tCons (tC (.int 1)) (tCons (tC (.int 1)) (tCons (tC (.int 2)) tNil))))))) (tCall sp__law_draw [] E0 (tCons (tVar 0) (tCons (tC (.int 6)) tNil)))) tNil)))) (gName 4))
    (tSeq (tAsg (tLst (tCons (tOp rSubI (tVar 3) (tC (.int 1))) tNil)) (gName 5))
    (tSeq (tIfS (tAnd (tTest (tOp rGtI (tVar 3) (tOp rAddI (tVar 4) (tC (.int 2))))) (tTest (tOp rEq (tCall sp__law_draw [] E0 (tCons (tVar 0) (tCons (tC (.int 3)) tNil))) (tC (.int 0))))) (tAsg (tLstRg (tRg2 (tOp rSubI (tOp rSubI (tVar 3) (tC (.int 2))) (tCall sp__law_draw [] E0 (tCons (tVar 0) (tCons (tCB rMin2 (tCons (tC (.int 3)) (tCons (tOp rSubI (tOp rSubI (tVar 3) (tVar 4)) (tC (.int 2))) tNil))) tNil)))) (tVar 3))) (gName 5)) tNext)
    (t_kit1 K)))))
end Un
namespace Un
open PySem L2 PySem.Spec PyProof.Rows
local macro_rules | `(tactic| tm_at "s") => `(tactic| with_reducible first
  | refine s_seq ?_ | (refine s_asg ?_; dsimp only [List.set]) | refine s_asgG ?_ | refine g_sub ?_ | refine s_sl ?_ | refine s_noPart ?_ | refine s_part ?_ | refine s_bm ?_ | refine s_lstRg ?_ | refine s_tupRg ?_ | refine s_rg1 ?_ | refine s_rg2 ?_  | refine s_isB ?_ | refine s_notB ?_ | refine s_next ?_ | refine s_ret ?_ | refine s_drop ?_ | refine s_ifs ?_ | refine s_brk ?_ | refine s_cont ?_ | refine s_retN ?_
  | refine s_var rfl ?_ | refine s_c ?_ | refine s_op ?_ | refine s_cons ?_ | refine s_nil ?_ | refine s_call ?_ | refine s_CB ?_ | refine s_un ?_
  | refine s_test ?_ | refine s_tB ?_ | refine s_k ?_ | refine s_not ?_ | refine s_and ?_ | refine s_or ?_ | refine s_notV ?_ | refine s_andV ?_ | refine s_orV ?_ | refine s_if ?_
  | refine s_add ?_ | refine s_sub ?_ | refine s_lt ?_ | refine s_le ?_ | refine s_gt ?_ | refine s_ge ?_ | refine s_eqI ?_ | refine s_neI ?_ | refine s_band ?_ | refine s_bor ?_ | refine s_neg ?_ | refine s_inv ?_
  | refine s_isN ?_ | refine s_notN ?_ | refine s_int1 ?_ | refine s_abs ?_ | refine s_min2 ?_ | refine s_max2 ?_
  | refine s_tup ?_ | refine s_lst ?_ | refine s_chain ?_ | refine s_truI ?_ | refine s_ki ?_ | refine s_sfld ?_ | refine s_fld ?_ | refine g_cons ?_ | refine g_nil ?_ | (refine g_name ?_; dsimp only [List.set]) | refine s_isD (by decide) (by assumption) ?_)
local macro_rules | `(tactic| tm_at "go") => `(tactic| repeat' (tm_at "s"))
variable {K : PySem.W.Frag}
theorem RgOk.small {n : Nat} (h : n ≤ 1000000) : RgOk 0 (n : Int) := .of_le (by omega) (by omega) (by omega) (by omega)
theorem rowAt {G : Hp} {rows : List Rec} {xs : List V} {i : Nat} {x : V} (h : RpAll G (rows.map rowD) xs) (hx : xs[i]? = some x) : ∃ (r : Rec) (t l : Addr), rows[i]? = some r ∧ x = .ref t ∧ G t = some (.tup [.ref l, .int (r.2 : Int)]) ∧ G l = some (.lst (vN r.1)) := by
  obtain ⟨d, h1, h2⟩ := h.get hx
  rw [List.getElem?_map] at h1
  obtain ⟨r, hr, rfl⟩ := Option.map_eq_some_iff.mp h1
  obtain ⟨t, ys, rfl, ht, hy⟩ := rp_tup.mp h2
  obtain ⟨y1, y2, rfl, q1, q2⟩ := rpAll_cons.mp hy
  obtain ⟨y3, y4, rfl, q3, q4⟩ := rpAll_cons.mp q2
  obtain rfl := rpAll_nil.mp q4
  obtain rfl := rp_int.mp q3
  obtain ⟨l, zs, rfl, hl, hz⟩ := rp_list.mp q1
  rw [rpAll_dN.mp hz] at hl
  exact ⟨r, t, l, hr, rfl, ht, hl⟩
theorem atI_pg {π : List Nat} {n : Nat} (h : n < π.length) : atI (vN π) (n : Int) = some (.int (pg π n : Nat)) := by
  rw [atI_vN h]
  unfold pg
  rw [List.getElem?_eq_getElem h]
  rfl
theorem pure__law_renamed (vs : List V) (H : Hp) (Q : VK) (E : XK) (h : sp__law_renamed vs H Q E) : t__law_renamed K { nx := fun _ H' => Q .non H', rt := Q } (start ["_law_hand_here", "_law_many", "_law_first", "_law_rows", "_law_goals", "_law_number", "_law_recipes", "_law_lot", "_law_thing", "_law_one", "_law_goal"] vs) H := by
  obtain ⟨a, b, c, m, f, xs, rows, goals, G, rfl, hh, hb, hba, hrows, hc, hca, m3, m40, f1, fm, hrOk, r0, rl, g0, gnd, hg, k⟩ := h
  show t__law_renamed K _ [some (.ref a), some (.int (m : Int)), some (.int (f : Int)), some (.ref b), some (.ref c), none, none, none, none, none, none] H
  unfold t__law_renamed
  tm_at "go"
  refine ⟨RgOk.small (by omega), fun q hq => ?_⟩
  have s1 := (Stp.refl hh).new (o := .lst (rgV 0 (m : Int))) hq
  have hqa := hh.ne hq
  tm_at "go"
  refine ⟨a, q, rgV 0 (m : Int), G, rfl, s1.hand, upd_same, hqa, by rw [rgV_nat, vN_len, List.length_range]; omega, fun ys p H2 hperm hp st hp2 => ?_⟩
  rw [rgV_nat] at hperm
  obtain ⟨π, hπ, rfl⟩ := perm_vN hperm
  have hl := pg_len hπ
  have s2 := s1.call st
  have hpa := s1.hand.ne hp
  have s3 := s2.hold (s1.free hp) (gfree s1.hand.same hp) hp2 hpa
  have hpG : (upd G p (.lst (vN π))) p = some (.lst (vN π)) := upd_same
  generalize upd G p (.lst (vN π)) = G3 at s3 hpG
  have hb2 := s2.kp hb hba
  have hc2 := s2.kp hc hca
  have hrows3 := hrows.up s3.gg
  tm_at "go"
  refine s_ldL (G0 := G3) (fun i acc G1 => ∃ es : List Rec, RpAll G1 (es.map recD) acc ∧ es.length = i ∧ ∀ (j : Nat) r', es[j]? = some r' → ∃ r, rows[j]? = some r ∧ Ren π r r')
    s3.gh hb2 (by rw [hrows.length, List.length_map]; omega) (fun _ q => ⟨_, rfl, q⟩) ⟨[], .nil, rfl, fun j r h => by simp at h⟩ (fun i x hi => ?_) fun p6 acc G6 H6 hp6 r6 hg6 hh6 hlen ⟨es, hes, hel, heR⟩ => ?_
  · obtain ⟨r, t, l, hr, rfl, ht, hll⟩ := rowAt hrows3 hi
    obtain ⟨k1, k2, k3, k4, k5, k6⟩ := hrOk r (List.mem_of_getElem? hr)
    intro acc G1 H1 hal r1 ⟨es, hes, hel, heR⟩ P hP
    have e1 : Same G3 H1 := r1.gg.trans r1.gh
    show gTup K 2 _ (.ref t) [some (.ref a), some (.int (m : Int)), some (.int (f : Int)), some (.ref b), some (.ref c), some (.ref p), none, none, none, none, none] H1 _
    refine g_tup (e1 _ _ ht) rfl ?_
    tm_at "go"
    refine ⟨rfl, ?_⟩
    tm_at "go"
    refine s_lcNL (fun _ => true) (pg π) (e1 _ _ hll) ?_ (fun _ q => ⟨_, rfl, q⟩) (fun n hn H2 P2 N2 e2 h2 _ => ?_) fun q1 H2 hq1 e2 hq1' => ?_
    · have := nodup_len (L := r.1) (L' := List.range m) k2 fun n hn => List.mem_range.mpr (k3 n hn)
      rw [List.length_range] at this
      omega
    · refine g_slot ⟨rfl, ?_⟩
      have goal : tOp rIxF (tVar 5) (tVar 9) [some (.ref a), some (.int (m : Int)), some (.int (f : Int)), some (.ref b), some (.ref c), some (.ref p), none, some (.ref l), some (.int (r.2 : Int)), some (.int (n : Int)), none] H2 P2 := ?_
      · exact goal
      tm_at "go"
      refine s_ixL ((e1.trans e2) _ _ hpG) (atI_pg (by have := k3 n hn; omega)) ?_
      exact h2 rfl _ (.refl _)
    · rw [List.filter_eq_self.mpr (fun _ _ => rfl)] at hq1'
      tm_at "go"
      refine s_sortedL hq1' fun ls q2 hls hls2 hq2 => ?_
      tm_at "go"
      refine s_tupF upd_same fun q3 hq3 => ?_
      have e3 : Same H1 (upd H2 q2 (.lst (vN ls))) := e2.trans (L2.Same.new hq2)
      have c3 := ((Run.refl (m := m0) r1.gh).more e3).lay (p := q3) (o := .tup (vN ls)) hq3
      tm_at "go"
      refine s_ixL (c3.same _ _ (e1 _ _ hpG)) (atI_pg (by omega)) ?_
      tm_at "go"
      refine ⟨by rw [sizeLine_eq]; simp, fun q4 hq4 => ?_⟩
      have c4 := c3.lay (p := q4) (o := .tup [.ref q3, .int (pg π r.2 : Nat)]) hq4
      have f3 : (upd (upd G1 q3 (.tup (vN ls))) q4 (.tup [.ref q3, .int (pg π r.2 : Nat)])) q3 = some (.tup (vN ls)) := by
        rw [upd_ne (fun e => by rw [e, upd_same] at hq4; cases hq4), upd_same]
      refine hP _ _ _ c4 ⟨es ++ [(ls, pg π r.2)], ?_, by rw [List.length_append, hel]; rfl, fun j r' hj => ?_⟩
      · rw [List.map_append]
        refine (hes.up c4.gg).snoc ?_
        show Rp _ (recD (ls, pg π r.2)) _
        unfold recD
        exact Rp.tup upd_same (.cons (rp_lot.mpr ⟨q3, rfl, f3⟩) (.cons Rp.int .nil))
      · by_cases hj2 : j < es.length
        · rw [List.getElem?_append_left hj2] at hj
          exact heR j r' hj
        · have hj3 := (List.getElem?_eq_some_iff.mp hj).1
          rw [List.length_append] at hj3
          have e : j = es.length := by
            have : [(ls, pg π r.2)].length = 1 := rfl
            omega
          rw [e, List.getElem?_append_right (Nat.le_refl _), Nat.sub_self] at hj
          have e5 : r' = (ls, pg π r.2) := (Option.some.inj hj).symm
          rw [e, hel, e5]
          exact ⟨r, hr, hls, hls2, rfl⟩
  · have s6 := s3.call0 r6
    have hpG6 := r6.gg _ _ hpG
    tm_at "go"
    refine s_slL (s6.gh _ _ hpG6) fun q7 hq7 => ?_
    have s7 := s6.new (o := .lst (cutV (vN π) none (some (f : Int)))) hq7
    tm_at "go"
    have e7 : cutV (vN π) none (some (f : Int)) = vN (π.take f) := by
      rw [cut_to]
      unfold vN
      rw [List.map_take]
    refine s_sortedL (ns := π.take f) (by rw [upd_same, e7]) fun gv q8 hgv hgv2 hq8 => ?_
    have s8 := s7.new (o := .lst (vN gv)) hq8
    tm_at "go"
    refine s_tupF upd_same fun q9 hq9 => ?_
    have s9 := s8.lay (o := .tup (vN gv)) hq9
    have h9 : (upd G6 q9 (.tup (vN gv))) q9 = some (.tup (vN gv)) := upd_same
    have keep6 : ∀ {u o}, H6 u = some o → (upd (upd (upd H6 q7 (.lst (cutV (vN π) none (some (f : Int))))) q8 (.lst (vN gv))) q9 (.tup (vN gv))) u = some o := fun {u o} e => (L2.Same.new hq9) _ _ ((L2.Same.new hq8) _ _ ((L2.Same.new hq7) _ _ e))
    generalize hGe : upd G6 q9 (.tup (vN gv)) = G9 at s9 h9
    have g69 : Same G6 G9 := hGe ▸ L2.Same.new (gfree s8.gh hq9)
    generalize upd (upd (upd H6 q7 (.lst (cutV (vN π) none (some (f : Int))))) q8 (.lst (vN gv))) q9 (.tup (vN gv)) = H9 at s9 keep6
    tm_at "go"
    refine s_tupF (keep6 hh6) fun q10 hq10 => ?_
    have s10 := s9.lay (o := .tup acc) hq10
    have h10 : (upd G9 q10 (.tup acc)) q10 = some (.tup acc) := upd_same
    have g910 : Same G9 (upd G9 q10 (.tup acc)) := L2.Same.new (gfree s9.gh hq10)
    have hc10 : (upd H9 q10 (.tup acc)) c = some (.lst (vN goals)) := (L2.Same.new hq10) _ _ (keep6 (r6.same _ _ hc2))
    generalize upd G9 q10 (.tup acc) = G10 at s10 h10 g910
    generalize upd H9 q10 (.tup acc) = H10 at s10 hc10
    have hpG10 := g910 _ _ (g69 _ _ hpG6)
    tm_at "go"
    refine s_lcNL (fun _ => true) (pg π) hc10 ?_ (fun _ q => ⟨_, rfl, q⟩) (fun n hn H2 P2 N2 e2 h2 _ => ?_) fun q11 H11 hq11 e11 hq11' => ?_
    · have := nodup_len (L := goals) (L' := List.range m) gnd fun n hn => List.mem_range.mpr (hg n hn).2.1
      rw [List.length_range] at this
      omega
    · refine g_slot ⟨rfl, ?_⟩
      have goal : tOp rIxF (tVar 5) (tVar 10) [some (.ref a), some (.int (m : Int)), some (.int (f : Int)), some (.ref b), some (.ref c), some (.ref p), some (.ref p6), none, none, none, some (.int (n : Int))] H2 P2 := ?_
      · exact goal
      tm_at "go"
      refine s_ixL (e2 _ _ (s10.gh _ _ hpG10)) (atI_pg (by have := (hg n hn).2.1; omega)) ?_
      exact h2 rfl _ (.refl _)
    · rw [List.filter_eq_self.mpr (fun _ _ => rfl)] at hq11'
      have s11 := s10.more e11
      tm_at "go"
      refine s_sortedL hq11' fun gl q12 hgl hgl2 hq12 => ?_
      have s12 := s11.new (o := .lst (vN gl)) hq12
      tm_at "go"
      refine s_tupF upd_same fun q13 hq13 => ?_
      have s13 := s12.lay (o := .tup (vN gl)) hq13
      have h13 : (upd G10 q13 (.tup (vN gl))) q13 = some (.tup (vN gl)) := upd_same
      have g13 : Same G10 (upd G10 q13 (.tup (vN gl))) := L2.Same.new (gfree s12.gh hq13)
      generalize upd G10 q13 (.tup (vN gl)) = G13 at s13 h13 g13
      tm_at "go"
      refine ⟨by rw [sizeLine_eq]; simp, fun q14 hq14 => ?_⟩
      have s14 := s13.lay (o := .tup [.int (m : Int), .ref q9, .ref q10, .ref q13]) hq14
      have g14 : Same G13 (upd G13 q14 (.tup [.int (m : Int), .ref q9, .ref q10, .ref q13])) := L2.Same.new (gfree s13.gh hq14)
      have hlen6 : es.length = rows.length := by rw [hel, hrows.length, List.length_map]
      refine k m gv es gl q14 _ _ (kit_ren hπ m3 m40 f1 fm hrOk r0 rl g0 gnd hg hgv hgv2 hlen6 heR hgl hgl2) s14 ?_
      refine Rp.tup upd_same (.cons Rp.int (.cons ?_ (.cons ?_ (.cons ?_ .nil))))
      · exact rp_lot.mpr ⟨q9, rfl, g14 _ _ (g13 _ _ (g910 _ _ h9))⟩
      · unfold recsD
        exact Rp.tup (g14 _ _ (g13 _ _ h10)) (hes.up (g69.trans (g910.trans (g13.trans g14))))
      · exact rp_lot.mpr ⟨q13, rfl, g14 _ _ h13⟩
end Un
namespace Un
open PySem L2 PySem.Spec PyProof.Rows
local macro_rules | `(tactic| tm_at "s") => `(tactic| with_reducible first
  | refine s_seq ?_ | (refine s_asg ?_; dsimp only [List.set]) | refine s_asgG ?_ | refine g_sub ?_ | refine s_sl ?_ | refine s_noPart ?_ | refine s_part ?_ | refine s_bm ?_ | refine s_lstRg ?_ | refine s_tupRg ?_ | refine s_rg1 ?_ | refine s_rg2 ?_  | refine s_isB ?_ | refine s_notB ?_ | refine s_next ?_ | refine s_ret ?_ | refine s_drop ?_ | refine s_ifs ?_ | refine s_brk ?_ | refine s_cont ?_ | refine s_retN ?_
  | refine s_var rfl ?_ | refine s_c ?_ | refine s_op ?_ | refine s_cons ?_ | refine s_nil ?_ | refine s_call ?_ | refine s_CB ?_ | refine s_un ?_
  | refine s_test ?_ | refine s_tB ?_ | refine s_k ?_ | refine s_not ?_ | refine s_and ?_ | refine s_or ?_ | refine s_notV ?_ | refine s_andV ?_ | refine s_orV ?_ | refine s_if ?_
  | refine s_add ?_ | refine s_sub ?_ | refine s_lt ?_ | refine s_le ?_ | refine s_gt ?_ | refine s_ge ?_ | refine s_eqI ?_ | refine s_neI ?_ | refine s_band ?_ | refine s_bor ?_ | refine s_neg ?_ | refine s_inv ?_
  | refine s_isN ?_ | refine s_notN ?_ | refine s_int1 ?_ | refine s_abs ?_ | refine s_min2 ?_ | refine s_max2 ?_
  | refine s_tup ?_ | refine s_lst ?_ | refine s_chain ?_ | refine s_truI ?_ | refine s_ki ?_ | refine s_sfld ?_ | refine s_fld ?_ | refine g_cons ?_ | refine g_nil ?_ | (refine g_name ?_; dsimp only [List.set]) | refine s_isD (by decide) (by assumption) ?_)
local macro_rules | `(tactic| tm_at "go") => `(tactic| repeat' (tm_at "s"))
variable {K : PySem.W.Frag}
structure KitSt (a g q : Addr) (goals : List Nat) (rows : List Rec) (G0 H0 G H : Hp) : Prop where
  st : Stp a G0 H0 G H
  hg : H g = some (.lst (vN goals))
  ga : g ≠ a
  hq : ∃ xs, H q = some (.lst xs) ∧ RpAll G (rows.map rowD) xs
  qa : q ≠ a
  gq : G q = none
  q0 : H0 q = none
  ne : g ≠ q
section
variable {a g q p : Addr} {goals : List Nat} {rows : List Rec} {G0 H0 G H G1 H1 : Hp} {o : HO}
theorem KitSt.call (S : KitSt a g q goals rows G0 H0 G H) (c : Stp a G H G1 H1) : KitSt a g q goals rows G0 H0 G1 H1 := by
  obtain ⟨xs, h1, h2⟩ := S.hq
  exact ⟨S.st.call c, c.kp S.hg S.ga, S.ga, ⟨xs, c.kp h1 S.qa, h2.up c.gg⟩, S.qa, c.out S.gq h1, S.q0, S.ne⟩
theorem KitSt.app (S : KitSt a g q goals rows G0 H0 G H) {xs : List V} {v : V} {r : Rec} (h1 : H q = some (.lst xs)) (h2 : RpAll G (rows.map rowD) xs) (hv : Rp G (rowD r) v) : KitSt a g q goals (rows ++ [r]) G0 H0 G (upd H q (.lst (xs ++ [v]))) :=
  ⟨S.st.put S.gq S.q0 S.qa, by rw [upd_ne S.ne]; exact S.hg, S.ga, ⟨_, upd_same, by rw [List.map_append]; exact h2.snoc hv⟩, S.qa, S.gq, S.q0, S.ne⟩
end
theorem Mak.mono {f : Nat} {rows rows' : List Rec} {g : Nat} (h : Mak f rows g) (e : ∀ r ∈ rows, r ∈ rows') : Mak f rows' g := fun S h1 h2 => h S h1 fun r hr => h2 r (e r hr)
def GOk (m f : Nat) (goals : List Nat) : Prop := goals ≠ [] ∧ goals.Nodup ∧ ∀ g ∈ goals, f ≤ g ∧ g < m
/-- what the kitchen promises -/
def KitQ (a : Addr) (G H : Hp) (Q : VK) : Prop := ∀ m' gv rs gl p G' H', Kit m' gv rs gl → Stp a G H G' H' → Rp G' (.tuple (partsD m' gv rs gl)) (.ref p) → Q (.ref p) H'
theorem kitE {a g q : Addr} {goals : List Nat} {rows : List Rec} {G H G1 H1 : Hp} {m f : Nat} {z1 z2 z6 z7 z9 z10 z11 z12 : Option V} {Q : VK} (S : KitSt a g q goals rows G H G1 H1) (m3 : 3 ≤ m) (m40 : m ≤ 40) (f1 : 1 ≤ f) (fm : f ≤ m) (hr : ∀ r ∈ rows, RowOk m f r) (r0 : rows ≠ []) (rl : rows.length ≤ 40)
    (hg : GOk m f goals) (hm : ∀ g ∈ goals, Mak f rows g) (k : KitQ a G H Q) : t_kitE { nx := fun _ H' => Q .non H', rt := Q } [some (.ref a), z1, z2, some (.int (m : Int)), some (.int (f : Int)), some (.ref g), z6, z7, some (.ref q), z9, z10, z11, z12, none, none] H1 := by
  obtain ⟨xs, hq, hxs⟩ := S.hq
  unfold t_kitE
  tm_at "go"
  refine ⟨a, q, xs, G1, rfl, S.st.hand, hq, S.qa, by rw [hxs.length, List.length_map]; omega, fun ys p H2 hp hp0 s2 hp2 => ?_⟩
  obtain ⟨es, he, hes⟩ := RpAll.perm hp hxs
  obtain ⟨rows', hrows, rfl⟩ := perm_map_inv he rfl
  have S2 := S.call s2
  have e : ∀ r, r ∈ rows' ↔ r ∈ rows := fun r => hrows.mem_iff
  tm_at "go"
  refine ⟨a, p, g, m, f, ys, rows', goals, G1, rfl, s2.hand, hp2, S.st.hand.ne hp0, hes, S2.hg, S.ga, m3, m40, f1, fm, fun r h => hr r ((e r).mp h), fun e0 => ?_, by rw [hrows.length_eq]; exact rl, hg.1, hg.2.1, fun x hx => ⟨(hg.2.2 x hx).1, (hg.2.2 x hx).2, (hm x hx).mono fun r h => (e r).mpr h⟩, fun m' gv rs gl p G' H' h1 h2 h3 => k m' gv rs gl p G' H' h1 (S2.st.call h2) h3⟩
  rw [e0] at hrows
  exact r0 hrows.symm.eq_nil
theorem s_forR2 {σ : L2.St} {H : Hp} {D : Ends} {t : TS} {g : TG} (lo hi : Nat) (Pv : Nat → L2.St → Hp → Prop) (hh : hi ≤ 1000000) (hl : lo ≤ hi) (h0 : Pv lo σ H)
    (hs : ∀ i σ' H', lo ≤ i → i < hi → Pv i σ' H' → g (.int (i : Nat)) σ' H' fun σ2 H2 => t { D with nx := Pv (i + 1), ct := Pv (i + 1), bk := D.nx } σ2 H2) (hd : ∀ σ' H', Pv hi σ' H' → D.nx σ' H') :
    tFor (iRng2 fun _ H Q => Q [.int (lo : Int), .int (hi : Int)] H) g t D σ H := by
  refine ⟨(lo : Int), (hi : Int), rfl, ⟨by omega, by omega, by omega, by omega⟩, ?_⟩
  have e : ((hi : Int) - (lo : Int)).toNat = hi - lo := by omega
  rw [e]
  refine for_range (lo := (lo : Int)) (n := hi - lo) (fun i => Pv (lo + i)) h0 (fun i σ' H' hi' p => ?_) fun σ' H' p => hd σ' H' ?_
  · have := hs (lo + i) σ' H' (by omega) (by omega) p
    have e2 : ((lo + i : Nat) : Int) = (lo : Int) + (i : Nat) := by omega
    rw [e2] at this
    exact this
  · have e2 : lo + (hi - lo) = hi := by omega
    rw [e2] at p
    exact p
theorem rowOk_of {m f t : Nat} {ns pool : List Nat} (n0 : ns ≠ []) (nd : ns.Nodup) (hin : ∀ n ∈ ns, n ∈ pool) (hp : ∀ n ∈ pool, n < m ∧ n ≠ t) (ht : t < m) (hf : f ≤ t) : RowOk m f (ns, t) :=
  ⟨n0, nd, fun n hn => (hp n (hin n hn)).1, ht, hf, fun hm => (hp t (hin t hm)).2 rfl⟩
/-- needs(pool), then the row is laid -/
theorem kitL2 {a g q : Addr} {goals : List Nat} {G H : Hp} {m f : Nat} {deep wild : Bool} {z1 z2 z9 z10 z11 z12 : Option V} {D : Ends} {rows : List Rec} {G1 H1 : Hp} (S : KitSt a g q goals rows G H G1 H1) (m40 : m ≤ 40) (f1 : 1 ≤ f) (fm : f < m) (hr : ∀ r ∈ rows, RowOk m f r) (r0 : rows ≠ []) (rl : rows.length ≤ 100)
    (k : ∀ (r : Rec) G2 H2 (y9 y10 y12 : Option V), RowOk m f r → KitSt a g q goals (rows ++ [r]) G H G2 H2 → D.nx [some (.ref a), z1, z2, some (.int (m : Int)), some (.int (f : Int)), some (.ref g), some (.bl deep), some (.bl wild), some (.ref q), y9, y10, z11, y12, none, none] H2) :
    t_kitL2 K D [some (.ref a), z1, z2, some (.int (m : Int)), some (.int (f : Int)), some (.ref g), some (.bl deep), some (.bl wild), some (.ref q), z9, z10, z11, z12, none, none] H1 := by
  unfold t_kitL2
  tm_at "go"
  refine ⟨a, _, G1, rfl, S.st.hand, by omega, by omega, fun d H2 hd s2 => ?_⟩
  have S2 := S.call s2
  tm_at "go"
  obtain ⟨t, ht⟩ : ∃ t : Nat, t = f + d := ⟨_, rfl⟩
  have e : (f : Int) + (d : Int) = (t : Int) := by omega
  rw [e]
  have htm : t < m := by omega
  have hft : f ≤ t := by omega
  refine s_lcNR (fun n => decide (n < t) || (wild && !decide (n = t))) id m (by omega) (fun _ q => ⟨_, rfl, q⟩) (fun n hn H3 P N e3 h1 h2 => ?_) fun p10 H3 hp10 e3 hp10' => ?_
  · refine g_slot ⟨rfl, ?_⟩
    have goal : tOr (tTest (tOp rLtI (tVar 14) (tVar 9))) (tAnd (tB (tVar 7)) (tTest (tOp rNe (tVar 14) (tVar 9)))) [some (.ref a), z1, z2, some (.int (m : Int)), some (.int (f : Int)), some (.ref g), some (.bl deep), some (.bl wild), some (.ref q), some (.int (t : Int)), z10, z11, z12, none, some (.int (n : Int))] H3 (fun b H4 => if b = true then tVar 14 [some (.ref a), z1, z2, some (.int (m : Int)), some (.int (f : Int)), some (.ref g), some (.bl deep), some (.bl wild), some (.ref q), some (.int (t : Int)), z10, z11, z12, none, some (.int (n : Int))] H4 P else N H4) := ?_
    · exact goal
    have yes : (decide (n < t) || (wild && !decide (n = t))) = true → tVar 14 [some (.ref a), z1, z2, some (.int (m : Int)), some (.int (f : Int)), some (.ref g), some (.bl deep), some (.bl wild), some (.ref q), some (.int (t : Int)), z10, z11, z12, none, some (.int (n : Int))] H3 P := fun hc => by
      tm_at "go"
      exact h1 hc _ (.refl _)
    have no : (decide (n < t) || (wild && !decide (n = t))) = false → N H3 := fun hc => h2 hc _ (.refl _)
    tm_at "go"
    refine s_ited (fun h3 => ?_) fun h3 => ?_
    · refine iteT (yes ?_)
      rw [decide_eq_true (by omega)]
      rfl
    · have hnt : decide (n < t) = false := decide_eq_false (by omega)
      tm_at "go"
      refine s_ite (fun h4 => ?_) fun h4 => ?_
      · tm_at "go"
        refine s_itend (fun h5 => yes ?_) fun h5 => no ?_
        · have hne : decide (n = t) = false := decide_eq_false fun e => h5 (by omega)
          rw [h4, hnt, hne]
          rfl
        · rw [hnt, h4, decide_eq_true (by omega)]
          rfl
      · refine iteF (no ?_)
        rw [hnt, h4]
        rfl
  · rw [List.map_id] at hp10'
    have S3 := S2.call ((Stp.refl S2.st.hand).more e3)
    generalize hpool : (List.range m).filter (fun n => decide (n < t) || (wild && !decide (n = t))) = pool at hp10'
    have hpm : ∀ n ∈ pool, n < m ∧ n ≠ t := fun n hn => by
      rw [← hpool] at hn
      obtain ⟨q1, q2⟩ := List.mem_filter.mp hn
      refine ⟨List.mem_range.mp q1, ?_⟩
      rintro rfl
      simp at q2
    have hp0 : pool ≠ [] := fun e0 => by
      have : 0 ∈ pool := by
        rw [← hpool]
        refine List.mem_filter.mpr ⟨List.mem_range.mpr (by omega), ?_⟩
        rw [decide_eq_true (by omega)]
        rfl
      rw [e0] at this
      cases this
    have hpl : pool.length ≤ 1000 := by
      rw [← hpool]
      refine Nat.le_trans (List.length_filter_le _ _) ?_
      rw [List.length_range]
      omega
    tm_at "go"
    refine ⟨a, p10, pool, G1, rfl, S3.st.hand, hp10', S2.st.hand.ne hp10, hp0, hpl, fun ns p H4 n0 nnd nin hp h4 hp4 => ?_⟩
    have hrow := rowOk_of n0 nnd nin hpm htm hft
    have S4 := S3.call h4
    have hpa := S3.st.hand.ne hp
    have hqp : q ≠ p := fun e => by
      obtain ⟨_, h, _⟩ := S3.hq
      rw [e, hp] at h
      cases h
    -- the list of needs stands still
    have s5 : Stp a G1 H3 (upd G1 p (.lst (vN ns))) H4 := h4.hold hp (gfree S3.st.gh hp) hp4 hpa
    have S5 := S3.call s5
    tm_at "go"
    refine ⟨by rw [sizeLine_eq]; simp, fun p2 hp2 => ?_⟩
    have S6 := S5.call ((Stp.refl S5.st.hand).lay (o := .tup [.ref p, .int (t : Int)]) hp2)
    have hp2p : p ≠ p2 := fun e => by rw [e, hp2] at hp4; cases hp4
    have hrow6 : Rp (upd (upd G1 p (.lst (vN ns))) p2 (.tup [.ref p, .int (t : Int)])) (rowD (ns, t)) (.ref p2) :=
      Rp.tup upd_same (.cons (Rp.lst (by rw [upd_ne hp2p, upd_same]) (rpAll_dN.mpr rfl)) (.cons Rp.int .nil))
    tm_at "go"
    have fin : ∀ (r : Rec) G7 H7 v, RowOk m f r → KitSt a g q goals rows G H G7 H7 → Rp G7 (rowD r) v → (tDrop (tBM K "list" rAppend (tVar 8) (tCons (tVar 12) tNil))) D [some (.ref a), z1, z2, some (.int (m : Int)), some (.int (f : Int)), some (.ref g), some (.bl deep), some (.bl wild), some (.ref q), some (.int (t : Int)), some (.ref p10), z11, some v, none, none] H7 := by
      intro r G7 H7 v hr7 S7 hv
      obtain ⟨xs, hq7, hxs7⟩ := S7.hq
      tm_at "go"
      refine s_tyL hq7 ?_
      tm_at "go"
      refine s_app hq7 (by rw [hxs7.length, List.length_map]; omega) ?_
      exact k r _ _ _ _ _ hr7 (S7.app hq7 hxs7 hv)
    refine ⟨a, _, _, rfl, S6.st.hand, by decide, by decide, fun d5 H5 _ s7 => ?_⟩
    have S7 := S6.call s7
    tm_at "go"
    refine s_ited (fun h5 => ?_) fun h5 => ?_
    · obtain ⟨xs, hq7, hxs7⟩ := S7.hq
      tm_at "go"
      refine s_lenL hq7 ?_
      tm_at "go"
      have hxl := hxs7.length
      rw [List.length_map] at hxl
      have hpos : 0 < rows.length := List.length_pos_iff.mpr r0
      refine ⟨a, _, _, rfl, S7.st.hand, by omega, by omega, fun d6 H6 hd6 s8 => ?_⟩
      have S8 := S7.call s8
      have hd6' : d6 < xs.length := by omega
      have hx6 : xs[d6]? = some xs[d6] := List.getElem?_eq_getElem hd6'
      obtain ⟨dd, q1, q2⟩ := hxs7.get hx6
      rw [List.getElem?_map] at q1
      obtain ⟨r6, q3, rfl⟩ := Option.map_eq_some_iff.mp q1
      refine s_ixL (s8.kp hq7 S7.qa) (by rw [atI_nat]; exact hx6) ?_
      exact fin r6 _ _ _ (hr r6 (List.mem_of_getElem? q3)) S8 (q2.up s8.gg)
    · refine s_next ?_
      exact fin (ns, t) _ _ _ hrow S7 (hrow6.up s7.gg)
end Un
namespace Un
open PySem L2 PySem.Spec PyProof.Rows
local macro_rules | `(tactic| tm_at "s") => `(tactic| with_reducible first
  | refine s_seq ?_ | (refine s_asg ?_; dsimp only [List.set]) | refine s_asgG ?_ | refine g_sub ?_ | refine s_sl ?_ | refine s_noPart ?_ | refine s_part ?_ | refine s_bm ?_ | refine s_lstRg ?_ | refine s_tupRg ?_ | refine s_rg1 ?_ | refine s_rg2 ?_  | refine s_isB ?_ | refine s_notB ?_ | refine s_next ?_ | refine s_ret ?_ | refine s_drop ?_ | refine s_ifs ?_ | refine s_brk ?_ | refine s_cont ?_ | refine s_retN ?_
  | refine s_var rfl ?_ | refine s_c ?_ | refine s_op ?_ | refine s_cons ?_ | refine s_nil ?_ | refine s_call ?_ | refine s_CB ?_ | refine s_un ?_
  | refine s_test ?_ | refine s_tB ?_ | refine s_k ?_ | refine s_not ?_ | refine s_and ?_ | refine s_or ?_ | refine s_notV ?_ | refine s_andV ?_ | refine s_orV ?_ | refine s_if ?_
  | refine s_add ?_ | refine s_sub ?_ | refine s_lt ?_ | refine s_le ?_ | refine s_gt ?_ | refine s_ge ?_ | refine s_eqI ?_ | refine s_neI ?_ | refine s_band ?_ | refine s_bor ?_ | refine s_neg ?_ | refine s_inv ?_
  | refine s_isN ?_ | refine s_notN ?_ | refine s_int1 ?_ | refine s_abs ?_ | refine s_min2 ?_ | refine s_max2 ?_
  | refine s_tup ?_ | refine s_lst ?_ | refine s_chain ?_ | refine s_truI ?_ | refine s_ki ?_ | refine s_sfld ?_ | refine s_fld ?_ | refine g_cons ?_ | refine g_nil ?_ | (refine g_name ?_; dsimp only [List.set]) | refine s_isD (by decide) (by assumption) ?_)
local macro_rules | `(tactic| tm_at "go") => `(tactic| repeat' (tm_at "s"))
variable {K : PySem.W.Frag}
theorem kit3 {a g q : Addr} {goals : List Nat} {G H : Hp} {m f R : Nat} {deep wild : Bool} {z1 z9 z10 z11 z12 : Option V} {rows : List Rec} {G1 H1 : Hp} {Q : VK} (S : KitSt a g q goals rows G H G1 H1) (m3 : 3 ≤ m) (m40 : m ≤ 40) (hR : R ≤ 40) (f1 : 1 ≤ f) (fm : f < m) (hr : ∀ r ∈ rows, RowOk m f r) (r0 : rows ≠ []) (rl : rows.length ≤ 39)
    (hg : GOk m f goals) (hm : ∀ g ∈ goals, Mak f rows g) (k : KitQ a G H Q) : t_kit3 K { nx := fun _ H' => Q .non H', rt := Q } [some (.ref a), z1, some (.int (R : Int)), some (.int (m : Int)), some (.int (f : Int)), some (.ref g), some (.bl deep), some (.bl wild), some (.ref q), z9, z10, z11, z12, none, none] H1 := by
  obtain ⟨xs, hq, hxs⟩ := S.hq
  have hxl := hxs.length
  rw [List.length_map] at hxl
  unfold t_kit3
  refine s_seq (s_forRx ?_)
  tm_at "go"
  refine s_lenL hq ?_
  tm_at "go"
  rw [hxl]
  obtain ⟨M, hM⟩ : ∃ M : Nat, (if (R : Int) - (rows.length : Int) > 1 then (R : Int) - (rows.length : Int) else 1) + 1 = (M : Int) ∧ 2 ≤ M ∧ (M : Int) ≤ 41 ∧ (M : Int) - 1 + rows.length ≤ 40 := by
    by_cases h : (R : Int) - (rows.length : Int) > 1
    · rw [if_pos h]
      exact ⟨(R - rows.length + 1), by omega, by omega, by omega, by omega⟩
    · rw [if_neg h]
      exact ⟨2, by omega, by omega, by omega, by omega⟩
  obtain ⟨hM0, hM1, hM2, hM3⟩ := hM
  rw [hM0]
  refine ⟨a, _, _, rfl, S.st.hand, by omega, by omega, fun d H2 hd s2 => ?_⟩
  have S2 := S.call s2
  tm_at "go"
  refine s_forR d (fun i σ H3 => ∃ (rows' : List Rec) (G3 : Hp) (y9 y10 y11 y12 : Option V), σ = [some (.ref a), z1, some (.int (R : Int)), some (.int (m : Int)), some (.int (f : Int)), some (.ref g), some (.bl deep), some (.bl wild), some (.ref q), y9, y10, y11, y12, none, none] ∧
      KitSt a g q goals rows' G H G3 H3 ∧ (∀ r ∈ rows', RowOk m f r) ∧ rows' ≠ [] ∧ rows'.length = rows.length + i ∧ ∀ g ∈ goals, Mak f rows' g)
    (by omega) ⟨rows, G1, _, _, _, _, rfl, S2, hr, r0, rfl, hm⟩ ?_ ?_ fun _ q => q
  · rintro i σ H3 hi ⟨rows', G3, y9, y10, y11, y12, rfl, S3, hr3, r03, hl3, hm3⟩
    refine g_slot ?_
    refine kitL2 S3 m40 f1 fm hr3 r03 (by omega) fun r G4 H4 y9 y10 y12 hr4 S4 => ?_
    refine ⟨rows' ++ [r], G4, _, _, _, _, rfl, S4, fun r' h' => ?_, by simp, by rw [List.length_append, hl3]; rfl, fun x hx => (hm3 x hx).mono fun r' h' => List.mem_append_left _ h'⟩
    rcases List.mem_append.mp h' with h' | h'
    · exact hr3 r' h'
    · rw [List.mem_singleton.mp h']
      exact hr4
  · rintro σ H3 ⟨rows', G3, y9, y10, y11, y12, rfl, S3, hr3, r03, hl3, hm3⟩
    exact kitE S3 m3 m40 f1 (by omega) hr3 r03 (by omega) hg hm3 k
/-- the body of the first loop -/
theorem kitL1 {a g q : Addr} {goals : List Nat} {G H : Hp} {m f t : Nat} {deep wild : Bool} {z1 z2 z10 z11 z12 : Option V} {D : Ends} {rows : List Rec} {G1 H1 : Hp} (S : KitSt a g q goals rows G H G1 H1) (m40 : m ≤ 40) (f1 : 1 ≤ f) (hft : f ≤ t) (htm : t < m) (hr : ∀ r ∈ rows, RowOk m f r ∧ r.2 < t ∧ Mak f rows r.2) (rl : rows.length ≤ 100)
    (k : ∀ (r : Rec) G2 H2 (y10 : Option V), RowOk m f r → r.2 = t → (∀ n ∈ r.1, n < f ∨ ∃ r' ∈ rows, r'.2 = n) → KitSt a g q goals (rows ++ [r]) G H G2 H2 → D.nx [some (.ref a), z1, z2, some (.int (m : Int)), some (.int (f : Int)), some (.ref g), some (.bl deep), some (.bl wild), some (.ref q), some (.int (t : Int)), y10, z11, z12, none, none] H2) :
    t_kitL1 K D [some (.ref a), z1, z2, some (.int (m : Int)), some (.int (f : Int)), some (.ref g), some (.bl deep), some (.bl wild), some (.ref q), some (.int (t : Int)), z10, z11, z12, none, none] H1 := by
  obtain ⟨xs, hq, hxs⟩ := S.hq
  have hxl := hxs.length
  rw [List.length_map] at hxl
  unfold t_kitL1
  tm_at "go"
  refine ⟨RgOk.small (by omega), fun p1 hp1 => ?_⟩
  have S1 := S.call ((Stp.refl S.st.hand).new (o := .lst (rgV 0 (f : Int))) hp1)
  have hp1a := S.st.hand.ne hp1
  have hq1 : (upd H1 p1 (.lst (rgV 0 (f : Int)))) q = some (.lst xs) := by rw [upd_ne (ne_of_none hq hp1)]; exact hq
  have hpv : (upd H1 p1 (.lst (rgV 0 (f : Int)))) p1 = some (.lst (vN (List.range f))) := by rw [upd_same, rgV_nat]
  generalize upd H1 p1 (.lst (rgV 0 (f : Int))) = H1' at S1 hq1 hpv
  refine s_lcL (fun _ => true) (fun i => (rows[i]?.map fun r => V.int (r.2 : Int)).getD (.int 0)) hq1 (by omega) (fun _ q => ⟨_, rfl, q⟩) (fun i x hi => ?_) fun p2 H3 hp2 e3 hp2' => ?_
  · obtain ⟨r, tt, l, hr1, rfl, ht, hll⟩ := rowAt hxs hi
    intro H3 P N e3 h1 h2
    show gTup K 2 _ (.ref tt) [some (.ref a), z1, z2, some (.int (m : Int)), some (.int (f : Int)), some (.ref g), some (.bl deep), some (.bl wild), some (.ref q), some (.int (t : Int)), z10, z11, z12, none, none] H3 _
    refine g_tup (e3 _ _ (S1.st.gh _ _ ht)) rfl ?_
    tm_at "go"
    refine ⟨rfl, ?_⟩
    have goal : tVar 14 [some (.ref a), z1, z2, some (.int (m : Int)), some (.int (f : Int)), some (.ref g), some (.bl deep), some (.bl wild), some (.ref q), some (.int (t : Int)), z10, z11, z12, some (.ref l), some (.int (r.2 : Int))] H3 P := ?_
    · exact goal
    tm_at "go"
    have := h1 rfl H3 (.refl _)
    simp only [hr1, Option.map_some, Option.getD_some] at this
    exact this
  · rw [lcOut_all, hxl, map_range] at hp2'
    have hmade : (rows.map fun r => V.int (r.2 : Int)) = vN (rows.map (·.2)) := by
      unfold vN
      rw [List.map_map]
      rfl
    rw [hmade] at hp2'
    have S2 := S1.call ((Stp.refl S1.st.hand).more e3)
    tm_at "go"
    refine s_catL (e3 _ _ hpv) hp2' (by rw [vN_len, vN_len, List.length_range, List.length_map]; omega) fun p3 hp3 => ?_
    have S3 := S2.call ((Stp.refl S2.st.hand).new (o := .lst (vN (List.range f) ++ vN (rows.map (·.2)))) hp3)
    have hp3a := S2.st.hand.ne hp3
    have e4 : vN (List.range f) ++ vN (rows.map (·.2)) = vN (List.range f ++ rows.map (·.2)) := by
      unfold vN
      rw [List.map_append]
    have hp3' : (upd H3 p3 (.lst (vN (List.range f) ++ vN (rows.map (·.2))))) p3 = some (.lst (vN (List.range f ++ rows.map (·.2)))) := by rw [upd_same, e4]
    generalize upd H3 p3 (.lst (vN (List.range f) ++ vN (rows.map (·.2)))) = H4 at S3 hp3'
    have hpool : ∀ n ∈ List.range f ++ rows.map (·.2), n < f ∨ ∃ r' ∈ rows, r'.2 = n := fun n hn => by
      rcases List.mem_append.mp hn with hn | hn
      · exact .inl (List.mem_range.mp hn)
      · obtain ⟨r', q1, q2⟩ := List.mem_map.mp hn
        exact .inr ⟨r', q1, q2⟩
    have hlt : ∀ n, (n < f ∨ ∃ r' ∈ rows, r'.2 = n) → n < m ∧ n ≠ t := fun n hn => by
      rcases hn with hn | ⟨r', q1, rfl⟩
      · omega
      · have := (hr r' q1).2.1
        omega
    have fin : ∀ (pool : List Nat) p H5, KitSt a g q goals rows G H G1 H5 → H5 p = some (.lst (vN pool)) → p ≠ a → pool ≠ [] → pool.length ≤ 1000 → (∀ n ∈ pool, n < f ∨ ∃ r' ∈ rows, r'.2 = n) →
        tDrop (tBM K "list" rAppend (tVar 8) (tCons (tTup (tCons (tCall sp__law_needs [] E0 (tCons (tVar 0) (tCons (tVar 10) tNil))) (tCons (tVar 9) tNil))) tNil)) D [some (.ref a), z1, z2, some (.int (m : Int)), some (.int (f : Int)), some (.ref g), some (.bl deep), some (.bl wild), some (.ref q), some (.int (t : Int)), some (.ref p), z11, z12, none, none] H5 := by
      intro pool p5 H5 S5 hp5 hp5a hp0 hpl hpin
      obtain ⟨xs5, hq5, hxs5⟩ := S5.hq
      tm_at "go"
      refine s_tyL hq5 ?_
      tm_at "go"
      refine ⟨a, p5, pool, G1, rfl, S5.st.hand, hp5, hp5a, hp0, hpl, fun ns p H6 n0 nnd nin hp h6 hp6 => ?_⟩
      have hrow := rowOk_of n0 nnd nin (fun n hn => hlt n (hpin n hn)) htm hft
      have hpa := S5.st.hand.ne hp
      have s6 : Stp a G1 H5 (upd G1 p (.lst (vN ns))) H6 := h6.hold hp (gfree S5.st.gh hp) hp6 hpa
      have S6 := S5.call s6
      tm_at "go"
      refine ⟨by rw [sizeLine_eq]; simp, fun p7 hp7 => ?_⟩
      have S7 := S6.call ((Stp.refl S6.st.hand).lay (o := .tup [.ref p, .int (t : Int)]) hp7)
      have hpp7 : p ≠ p7 := fun e => by rw [e, hp7] at hp6; cases hp6
      have hrow7 : Rp (upd (upd G1 p (.lst (vN ns))) p7 (.tup [.ref p, .int (t : Int)])) (rowD (ns, t)) (.ref p7) :=
        Rp.tup upd_same (.cons (Rp.lst (by rw [upd_ne hpp7, upd_same]) (rpAll_dN.mpr rfl)) (.cons Rp.int .nil))
      obtain ⟨xs7, hq7, hxs7⟩ := S7.hq
      have exs : xs7 = xs5 := by
        have h := h6.kp hq5 S5.qa
        rw [upd_ne (ne_of_none h hp7), h] at hq7
        cases hq7
        rfl
      subst exs
      tm_at "go"
      refine s_app hq7 (by rw [hxs7.length, List.length_map]; omega) ?_
      exact k (ns, t) _ _ _ hrow rfl (fun n hn => hpin n (nin n hn)) (S7.app hq7 hxs7 hrow7)
    have hne : List.range f ++ rows.map (·.2) ≠ [] := fun e => by
      have := congrArg List.length e
      rw [List.length_append, List.length_range] at this
      simp at this
      omega
    have hle : (List.range f ++ rows.map (·.2)).length ≤ 1000 := by
      rw [List.length_append, List.length_range, List.length_map]
      omega
    tm_at "go"
    refine s_ite (fun hd => ?_) fun hd => ?_
    · tm_at "go"
      refine s_slL hp3' fun p8 hp8 => ?_
      have e8 : cutV (vN (List.range f ++ rows.map (·.2))) (some (-2)) none = vN ((List.range f ++ rows.map (·.2)).drop ((List.range f ++ rows.map (·.2)).length - 2)) := by
        have := cut_back (vN (List.range f ++ rows.map (·.2))) 2 (by decide)
        rw [vN_len] at this
        rw [show (-2 : Int) = -((2 : Nat) : Int) from rfl, this]
        unfold vN
        rw [List.map_drop]
      have S8 := S3.call ((Stp.refl S3.st.hand).new (o := .lst (cutV (vN (List.range f ++ rows.map (·.2))) (some (-2)) none)) hp8)
      refine fin _ p8 _ S8 (by rw [upd_same, e8]) (S3.st.hand.ne hp8) (fun e => ?_) (by rw [List.length_drop]; omega) fun n hn => hpool n (List.mem_of_mem_drop hn)
      have := congrArg List.length e
      rw [List.length_drop] at this
      have h0 := List.length_pos_iff.mpr hne
      simp only [List.length_nil] at this
      omega
    · refine s_next ?_
      exact fin _ p3 _ S3 hp3' hp3a hne hle hpool
end Un
namespace Un
open PySem L2 PySem.Spec PyProof.Rows
local macro_rules | `(tactic| tm_at "s") => `(tactic| with_reducible first
  | refine s_seq ?_ | (refine s_asg ?_; dsimp only [List.set]) | refine s_asgG ?_ | refine g_sub ?_ | refine s_sl ?_ | refine s_noPart ?_ | refine s_part ?_ | refine s_bm ?_ | refine s_lstRg ?_ | refine s_tupRg ?_ | refine s_rg1 ?_ | refine s_rg2 ?_  | refine s_isB ?_ | refine s_notB ?_ | refine s_next ?_ | refine s_ret ?_ | refine s_drop ?_ | refine s_ifs ?_ | refine s_brk ?_ | refine s_cont ?_ | refine s_retN ?_
  | refine s_var rfl ?_ | refine s_c ?_ | refine s_op ?_ | refine s_cons ?_ | refine s_nil ?_ | refine s_call ?_ | refine s_CB ?_ | refine s_un ?_
  | refine s_test ?_ | refine s_tB ?_ | refine s_k ?_ | refine s_not ?_ | refine s_and ?_ | refine s_or ?_ | refine s_notV ?_ | refine s_andV ?_ | refine s_orV ?_ | refine s_if ?_
  | refine s_add ?_ | refine s_sub ?_ | refine s_lt ?_ | refine s_le ?_ | refine s_gt ?_ | refine s_ge ?_ | refine s_eqI ?_ | refine s_neI ?_ | refine s_band ?_ | refine s_bor ?_ | refine s_neg ?_ | refine s_inv ?_
  | refine s_isN ?_ | refine s_notN ?_ | refine s_int1 ?_ | refine s_abs ?_ | refine s_min2 ?_ | refine s_max2 ?_
  | refine s_tup ?_ | refine s_lst ?_ | refine s_chain ?_ | refine s_truI ?_ | refine s_ki ?_ | refine s_sfld ?_ | refine s_fld ?_ | refine g_cons ?_ | refine g_nil ?_ | (refine g_name ?_; dsimp only [List.set]) | refine s_isD (by decide) (by assumption) ?_)
local macro_rules | `(tactic| tm_at "go") => `(tactic| repeat' (tm_at "s"))
variable {K : PySem.W.Frag}
def L1Inv (a g q : Addr) (goals : List Nat) (G H : Hp) (m f R : Nat) (deep wild : Bool) (z1 z11 z12 : Option V) (i : Nat) (σ : L2.St) (H3 : Hp) : Prop :=
  ∃ (rows : List Rec) (G3 : Hp) (y9 y10 : Option V), σ = [some (.ref a), z1, some (.int (R : Int)), some (.int (m : Int)), some (.int (f : Int)), some (.ref g), some (.bl deep), some (.bl wild), some (.ref q), y9, y10, z11, z12, none, none] ∧
      KitSt a g q goals rows G H G3 H3 ∧ (∀ r ∈ rows, RowOk m f r ∧ r.2 < i ∧ Mak f rows r.2) ∧ rows.length + f ≤ i ∧ ∀ x ∈ goals, x < i → ∃ r ∈ rows, r.2 = x
theorem kit2 {a g q : Addr} {goals : List Nat} {G H : Hp} {m f R : Nat} {deep wild : Bool} {z1 z9 z10 z11 z12 : Option V} {G1 H1 : Hp} {Q : VK} (S : KitSt a g q goals [] G H G1 H1) (m3 : 3 ≤ m) (m40 : m ≤ 40) (hR : R ≤ 40) (f1 : 1 ≤ f) (fm : f < m)
    (hg : GOk m f goals) (k : KitQ a G H Q) : t_kit2 K { nx := fun _ H' => Q .non H', rt := Q } [some (.ref a), z1, some (.int (R : Int)), some (.int (m : Int)), some (.int (f : Int)), some (.ref g), some (.bl deep), some (.bl wild), some (.ref q), z9, z10, z11, z12, none, none] H1 := by
  unfold t_kit2
  refine s_seq (s_forR2x ?_)
  tm_at "go"
  refine s_forR2 f m (L1Inv a g q goals G H m f R deep wild z1 z11 z12)
    (by omega) (by omega) ⟨[], G1, _, _, rfl, S, fun r h => (nomatch h), by simp, fun x hx h => absurd (hg.2.2 x hx).1 (by omega)⟩ ?_ ?_
  · rintro t σ H3 hft htm ⟨rows, G3, y9, y10, rfl, S3, hr3, hl3, hm3⟩
    refine g_slot ?_
    show tIfS _ _ _ _ [some (.ref a), z1, some (.int (R : Int)), some (.int (m : Int)), some (.int (f : Int)), some (.ref g), some (.bl deep), some (.bl wild), some (.ref q), some (.int (t : Nat)), y10, z11, z12, none, none] H3
    have yes : ∀ H4, KitSt a g q goals rows G H G3 H4 → t_kitL1 K { nx := L1Inv a g q goals G H m f R deep wild z1 z11 z12 (t + 1), ct := L1Inv a g q goals G H m f R deep wild z1 z11 z12 (t + 1), bk := t_kit3 K { nx := fun _ H' => Q .non H', rt := Q }, rt := Q } [some (.ref a), z1, some (.int (R : Int)), some (.int (m : Int)), some (.int (f : Int)), some (.ref g), some (.bl deep), some (.bl wild), some (.ref q), some (.int (t : Nat)), y10, z11, z12, none, none] H4 := by
      intro H4 S4
      refine kitL1 S4 m40 f1 hft htm hr3 (by omega) fun r G5 H5 y hrow hrt hin S5 => ?_
      refine ⟨rows ++ [r], G5, _, _, rfl, S5, fun r' h' => ?_, by rw [List.length_append]; show rows.length + 1 + f ≤ t + 1; omega, fun x hx hxt => ?_⟩
      · rcases List.mem_append.mp h' with h' | h'
        · obtain ⟨q1, q2, q3⟩ := hr3 r' h'
          exact ⟨q1, by omega, q3.mono fun r h => List.mem_append_left _ h⟩
        · have e := List.mem_singleton.mp h'
          subst e
          refine ⟨hrow, by omega, fun S h1 h2 => h2 r' (List.mem_append_right _ (List.mem_singleton.mpr rfl)) fun n hn => ?_⟩
          rcases hin n hn with q | ⟨r2, q1, rfl⟩
          · exact h1 n q
          · exact (hr3 r2 q1).2.2 S h1 fun r h => h2 r (List.mem_append_left _ h)
      · by_cases e : x = t
        · exact ⟨r, List.mem_append_right _ (List.mem_singleton.mpr rfl), by omega⟩
        · obtain ⟨r2, q1, q2⟩ := hm3 x hx (by omega)
          exact ⟨r2, List.mem_append_left _ q1, q2⟩
    tm_at "go"
    refine s_inL S3.hg ?_
    tm_at "go"
    refine s_ited (fun h1 => iteT (yes _ S3)) fun h1 => ?_
    tm_at "go"
    refine s_ite (fun h2 => iteT (yes _ S3)) fun h2 => ?_
    tm_at "go"
    refine ⟨a, _, _, rfl, S3.st.hand, by decide, by decide, fun d H4 _ s4 => ?_⟩
    have S4 := S3.call s4
    tm_at "go"
    refine s_ited (fun h3 => yes _ S4) fun h3 => ?_
    tm_at "go"
    refine ⟨rows, G3, _, _, rfl, S4, fun r h => ?_, by omega, fun x hx hxt => ?_⟩
    · obtain ⟨q1, q2, q3⟩ := hr3 r h
      exact ⟨q1, by omega, q3⟩
    · refine hm3 x hx ?_
      have : x ≠ t := fun e => h1 (e ▸ hx)
      omega
  · rintro σ H3 ⟨rows, G3, y9, y10, rfl, S3, hr3, hl3, hm3⟩
    have hmk : ∀ x ∈ goals, Mak f rows x := fun x hx => by
      obtain ⟨r, q1, rfl⟩ := hm3 x hx (hg.2.2 x hx).2
      exact (hr3 r q1).2.2
    refine kit3 S3 m3 m40 hR f1 fm (fun r h => (hr3 r h).1) (fun e => ?_) (by omega) hg hmk k
    subst e
    obtain ⟨x, hx⟩ : ∃ x, x ∈ goals := by
      cases h : goals with
      | nil => exact absurd h hg.1
      | cons x l => exact ⟨x, List.mem_cons_self ..⟩
    obtain ⟨r, q1, _⟩ := hm3 x hx (hg.2.2 x hx).2
    cases q1
theorem kit1 {a g : Addr} {goals : List Nat} {G H : Hp} {m f R : Nat} {z1 : Option V} {H1 : Hp} {Q : VK} (st : Stp a G H G H1) (hgl : H1 g = some (.lst (vN goals))) (hga : g ≠ a) (m3 : 3 ≤ m) (m40 : m ≤ 40) (hR : R ≤ 40) (f1 : 1 ≤ f) (fm : f < m)
    (hg : GOk m f goals) (k : KitQ a G H Q) : t_kit1 K { nx := fun _ H' => Q .non H', rt := Q } [some (.ref a), z1, some (.int (R : Int)), some (.int (m : Int)), some (.int (f : Int)), some (.ref g), none, none, none, none, none, none, none, none, none] H1 := by
  unfold t_kit1
  tm_at "go"
  refine ⟨a, _, _, rfl, st.hand, by decide, by decide, fun d2 H2 _ s2 => ?_⟩
  have st2 := st.call s2
  tm_at "go"
  refine ⟨a, _, _, rfl, st2.hand, by decide, by decide, fun d3 H3 _ s3 => ?_⟩
  have st3 := st2.call s3
  tm_at "go"
  refine ⟨by rw [sizeLine_eq]; decide, fun q hq => ?_⟩
  have st4 := st3.new (o := .lst []) hq
  have hg3 := s3.kp (s2.kp hgl hga) hga
  have hgq : g ≠ q := fun e => by rw [e, hq] at hg3; cases hg3
  tm_at "go"
  exact kit2 ⟨st4, by rw [upd_ne hgq]; exact hg3, hga, ⟨[], upd_same, .nil⟩, st3.hand.ne hq, gfree st3.gh hq, st3.free hq, hgq⟩ m3 m40 hR f1 fm hg k
theorem rgV_nat2 (lo hi : Nat) : rgV (lo : Int) (hi : Int) = vN ((List.range (hi - lo)).map (lo + ·)) := by
  unfold rgV vN
  have e : ((hi : Int) - (lo : Int)).toNat = hi - lo := by omega
  rw [e, List.map_map]
  apply List.map_congr_left
  intro i _
  show V.int _ = V.int _
  congr 1
theorem pure__law_kitchen (vs : List V) (H : Hp) (Q : VK) (E : XK) (h : sp__law_kitchen vs H Q E) : t__law_kitchen K { nx := fun _ H' => Q .non H', rt := Q } (start ["_law_hand_here", "_law_things", "_law_recipes", "_law_many", "_law_first", "_law_goals", "_law_deep", "_law_wild", "_law_found", "_law_thing", "_law_pool", "_law_turn", "_law_row", "_law_lot", "_law_one"] vs) H := by
  obtain ⟨a, T, R, G, rfl, hh, hT, hT40, hR, k⟩ := h
  show t__law_kitchen K _ [some (.ref a), some (.int (T : Int)), some (.int (R : Int)), none, none, none, none, none, none, none, none, none, none, none, none] H
  unfold t__law_kitchen
  have st0 := Stp.refl hh
  tm_at "go"
  refine ⟨a, _, _, rfl, hh, by omega, by omega, fun d1 H1 hd1 s1 => ?_⟩
  tm_at "go"
  obtain ⟨m, hm⟩ : ∃ m : Nat, m = 3 + d1 := ⟨_, rfl⟩
  have em : (3 : Int) + (d1 : Int) = (m : Int) := by omega
  rw [em]
  have m3 : 3 ≤ m := by omega
  have m40 : m ≤ 40 := by omega
  refine ⟨by rw [sizeLine_eq]; decide, fun p2 hp2 => ?_⟩
  have s2 := s1.new (o := .lst [.int 0, .int 0, .int 0, .int 1, .int 1, .int 2]) hp2
  tm_at "go"
  refine ⟨a, 6, _, rfl, s2.hand, by decide, by decide, fun d3 H3 hd3 s3 => ?_⟩
  have st3 := s2.call s3
  obtain ⟨n, hn, hn2⟩ : ∃ n : Nat, atI [V.int 0, .int 0, .int 0, .int 1, .int 1, .int 2] (d3 : Int) = some (.int (n : Int)) ∧ n ≤ 2 := by
    have : d3 = 0 ∨ d3 = 1 ∨ d3 = 2 ∨ d3 = 3 ∨ d3 = 4 ∨ d3 = 5 := by omega
    rcases this with rfl | rfl | rfl | rfl | rfl | rfl
    · exact ⟨0, rfl, by decide⟩
    · exact ⟨0, rfl, by decide⟩
    · exact ⟨0, rfl, by decide⟩
    · exact ⟨1, rfl, by decide⟩
    · exact ⟨1, rfl, by decide⟩
    · exact ⟨2, rfl, by decide⟩
  refine s_ixL (s3.kp (p := p2) upd_same (s1.hand.ne hp2)) hn ?_
  tm_at "go"
  obtain ⟨f, hf, f1, fm⟩ : ∃ f : Nat, 1 + (if (n : Int) < (m : Int) - 3 then (n : Int) else (m : Int) - 3) = (f : Int) ∧ 1 ≤ f ∧ f < m := by
    by_cases h : (n : Int) < (m : Int) - 3
    · rw [if_pos h]
      exact ⟨1 + n, by omega, by omega, by omega⟩
    · rw [if_neg h]
      exact ⟨m - 2, by omega, by omega, by omega⟩
  rw [hf]
  refine ⟨by rw [sizeLine_eq]; simp, fun p4 hp4 => ?_⟩
  have em1 : ((m : Int) - 1) = ((m - 1 : Nat) : Int) := by omega
  rw [em1]
  have st4 := st3.new (o := .lst [.int ((m - 1 : Nat) : Int)]) hp4
  have hp4a := st3.hand.ne hp4
  have hp4' : (upd H3 p4 (.lst [.int ((m - 1 : Nat) : Int)])) p4 = some (.lst (vN [m - 1])) := upd_same
  generalize upd H3 p4 (.lst [.int ((m - 1 : Nat) : Int)]) = H4 at st4 hp4'
  have hg1 : GOk m f [m - 1] := ⟨by simp, by simp, fun x hx => by
    have := List.mem_singleton.mp hx
    omega⟩
  tm_at "go"
  refine s_ited (fun h5 => ?_) fun h5 => ?_
  · tm_at "go"
    refine ⟨a, _, _, rfl, st4.hand, by decide, by decide, fun d5 H5 _ s5 => ?_⟩
    have st5 := st4.call s5
    tm_at "go"
    refine s_ited (fun h6 => ?_) fun h6 => ?_
    · tm_at "go"
      obtain ⟨M, hM, hM1, hM2⟩ : ∃ M : Nat, (if (m : Int) - (f : Int) - 2 < 3 then (m : Int) - (f : Int) - 2 else 3) = (M : Int) ∧ 0 < M ∧ M ≤ m - f - 2 := by
        by_cases h : (m : Int) - (f : Int) - 2 < 3
        · rw [if_pos h]
          exact ⟨m - f - 2, by omega, by omega, by omega⟩
        · rw [if_neg h]
          exact ⟨3, by omega, by omega, by omega⟩
      rw [hM]
      refine ⟨a, _, _, rfl, st5.hand, by omega, by omega, fun d7 H7 hd7 s7 => ?_⟩
      have st7 := st5.call s7
      tm_at "go"
      obtain ⟨lo, hlo⟩ : ∃ lo : Nat, (m : Int) - 2 - (d7 : Int) = (lo : Int) := ⟨m - 2 - d7, by omega⟩
      rw [hlo]
      refine ⟨_, _, rfl, rfl, .of_le (by omega) (by omega) (by omega) (by omega), fun p8 hp8 => ?_⟩
      have st8 := st7.new (o := .lst (rgV (lo : Int) (m : Int))) hp8
      refine kit1 (goals := (List.range (m - lo)).map (lo + ·)) st8 (by rw [upd_same, rgV_nat2]) (st7.hand.ne hp8) m3 m40 hR f1 fm ⟨fun e => ?_, ?_, fun x hx => ?_⟩ k
      · have := congrArg List.length e
        rw [List.length_map, List.length_range] at this
        simp only [List.length_nil] at this
        omega
      · exact List.pairwise_map.mpr (List.nodup_range.imp fun {x y} h e => h (by omega))
      · obtain ⟨i, q1, rfl⟩ := List.mem_map.mp hx
        have := List.mem_range.mp q1
        show f ≤ lo + i ∧ lo + i < m
        omega
    · refine s_next ?_
      exact kit1 st5 (s5.kp hp4' hp4a) hp4a m3 m40 hR f1 fm hg1 k
  · refine iteF (s_next ?_)
    exact kit1 st4 hp4' hp4a m3 m40 hR f1 fm hg1 k
end Un
/-! The law's own checks of cookeries. -/
namespace Un
open PySem L2 PySem.Spec PyProof.Rows
mutual
/-- no tuple in it is long -/
def szD : PyData → Bool
  | .list ds => decide (ds.length ≤ 1000) && szL ds
  | .tuple ds => decide (ds.length ≤ 1000) && szL ds
  | _ => true
def szL : List PyData → Bool
  | [] => true
  | d :: ds => szD d && szL ds
end
theorem szL_mem : ∀ {ds : List PyData} {d : PyData}, szL ds = true → d ∈ ds → szD d = true
  | [], _, _, h => by cases h
  | e :: ds, d, h, hm => by
    simp only [szL, Bool.and_eq_true] at h
    rcases List.mem_cons.mp hm with rfl | hm
    · exact h.1
    · exact szL_mem h.2 hm
theorem szL_of : ∀ {ds : List PyData}, (∀ d ∈ ds, szD d = true) → szL ds = true
  | [], _ => rfl
  | d :: ds, h => by
    simp only [szL, Bool.and_eq_true]
    exact ⟨h d (List.mem_cons_self ..), szL_of fun e he => h e (List.mem_cons_of_mem _ he)⟩
theorem szD_tup {ds : List PyData} (h : szD (.tuple ds) = true) : ds.length ≤ 1000 ∧ ∀ d ∈ ds, szD d = true := by
  simp only [szD, Bool.and_eq_true, decide_eq_true_eq] at h
  exact ⟨h.1, fun d hd => szL_mem h.2 hd⟩
theorem szD_tup_of {ds : List PyData} (h : ds.length ≤ 1000) (h2 : ∀ d ∈ ds, szD d = true) : szD (.tuple ds) = true := by
  simp only [szD, Bool.and_eq_true, decide_eq_true_eq]
  exact ⟨h, szL_of h2⟩
theorem szD_list_of {ds : List PyData} (h : ds.length ≤ 1000) (h2 : ∀ d ∈ ds, szD d = true) : szD (.list ds) = true := by
  simp only [szD, Bool.and_eq_true, decide_eq_true_eq]
  exact ⟨h, szL_of h2⟩
theorem szD_dN {ns : List Nat} : ∀ d ∈ dN ns, szD d = true := fun d hd => by
  obtain ⟨n, _, rfl⟩ := List.mem_map.mp hd
  rfl
def sp__law_is_number : Sp := fun vs H Q _ => ∃ v d m, vs = [v, .int m] ∧ Rp H d v ∧ ∀ H', Same H H' → Q (.bl (idx d m)) H'
def sp__law_is_lot : Sp := fun vs H Q _ => ∃ v d m, vs = [v, .int m] ∧ Rp H d v ∧ szD d = true ∧ ∀ H', Same H H' → Q (.bl (isLot d m)) H'
def sp__law_is_recipe : Sp := fun vs H Q _ => ∃ v d m g gv, vs = [.int m, .ref g, v] ∧ H g = some (.tup (vN gv)) ∧ Rp H d v ∧ szD d = true ∧ ∀ H', Same H H' → Q (.bl (decP (RecOk m gv d))) H'
/-- what can be made, as a list -/
structure MadeL (rs : List Rec) (m : Nat) (gv L : List Nat) : Prop where
  nd : L.Nodup
  lt : ∀ n ∈ L, n < m
  base : ∀ n ∈ gv, n ∈ L
  least : ∀ S : Nat → Prop, (∀ n ∈ gv, S n) → (∀ r ∈ rs, (∀ n ∈ r.1, S n) → S r.2) → ∀ n ∈ L, S n
def ClosedL (rs : List Rec) (L : List Nat) : Prop := ∀ r ∈ rs, (∀ n ∈ r.1, n ∈ L) → r.2 ∈ L
theorem madeL_made {rs : List Rec} {m : Nat} {gv L : List Nat} (h : MadeL rs m gv L) (c : ClosedL rs L) (hr : ∀ r ∈ rs, r.2 < m) : IsMade rs (mk gv) (2 ^ m - 1) 0 (mk L) where
  base := fun i hi => by
    rw [bit_mk] at hi ⊢
    exact decide_eq_true (h.base i (of_decide_eq_true hi))
  closed := fun k r hk _ _ hn => by
    rw [bit_mk]
    refine decide_eq_true (c r (List.mem_of_getElem? hk) fun n hn' => ?_)
    have := hn n hn'
    rw [bit_mk] at this
    exact of_decide_eq_true this
  least := fun S hT hS i hi => by
    rw [bit_mk] at hi
    refine h.least (fun n => S.testBit n = true) (fun n hn => hT n (by rw [bit_mk]; exact decide_eq_true hn)) (fun r hrr hn => ?_) i (of_decide_eq_true hi)
    obtain ⟨k, hk⟩ := List.mem_iff_getElem?.mp hrr
    exact hS k r hk (by rw [bit_full]; exact decide_eq_true (hr r hrr)) (Nat.zero_testBit _) hn
theorem ClosedL.full {rs : List Rec} {m : Nat} {gv L : List Nat} (h : MadeL rs m gv L) (hr : ∀ r ∈ rs, r.2 < m) (hl : m ≤ L.length) : ClosedL rs L := fun r hrr _ => by
  apply Classical.byContradiction
  intro hn
  have := nodup_len (L := r.2 :: L) (L' := List.range m) (List.nodup_cons.mpr ⟨hn, h.nd⟩) fun t ht => by
    rcases List.mem_cons.mp ht with rfl | ht
    · exact List.mem_range.mpr (hr r hrr)
    · exact List.mem_range.mpr (h.lt t ht)
  rw [List.length_cons, List.length_range] at this
  omega
def sp__law_made : Sp := fun vs H Q _ => ∃ (p a2 g z : Addr) (m : Nat) (xs : List V) (rs : List Rec) (gv : List Nat), vs = [.ref p, .ref g, .ref z] ∧ (H p = some (.lst xs) ∨ H p = some (.tup xs)) ∧ atI xs 0 = some (.int (m : Int)) ∧ atI xs 2 = some (.ref a2) ∧
  H g = some (.tup (vN gv)) ∧ H z = some (.tup []) ∧ Rp H (recsD rs) (.ref a2) ∧ m ≤ 1000 ∧ rs.length ≤ 1000 ∧ gv.Nodup ∧ (∀ n ∈ gv, n < m) ∧ (∀ r ∈ rs, r.2 < m ∧ r.1.length ≤ 1000) ∧
  ∀ L q H', IsMade rs (mk gv) (2 ^ m - 1) 0 (mk L) → H q = none → Same H H' → H' q = some (.lst (vN L)) → Q (.ref q) H'
def badV : Option Str → V
  | some t => .str t
  | none => .non
def sp__law_bad : Sp := fun vs H Q _ => ∃ (p : Addr) (v0 v1 v2 v3 : V) (d0 d1 d2 d3 : PyData), vs = [.ref p] ∧ H p = some (.lst [v0, v1, v2, v3]) ∧ Rp H d0 v0 ∧ Rp H d1 v1 ∧ Rp H d2 v2 ∧ Rp H d3 v3 ∧ szD d1 = true ∧ szD d2 = true ∧ szD d3 = true ∧
  ∀ H', Same H H' → Q (badV (badP d0 d1 d2 d3)) H'
/-! ### steps -/
theorem s_allRi {σ : L2.St} {H : Hp} {Q : VK} {ta : TA} {tx : TE} {g : TG} {vs : List Nat} (x : Int) (p : Nat → Bool) (hn : x ≤ 100000) (hn0 : -1000 ≤ x) (he : ∀ Q : List V → Hp → Prop, Q [.int x] H → ta σ H Q)
    (hx : ∀ i, i < x.toNat → ∀ (H1 : Hp) (P : VK), Same H H1 → (∀ H4, Same H1 H4 → P (.bl (p i)) H4) → g (.int (i : Nat)) (wipe σ vs) H1 fun σ2 H2 => wipe σ2 vs = wipe σ vs ∧ tx σ2 H2 P)
    (k : ∀ H1, Same H H1 → Q (.bl ((List.range x.toNat).all p)) H1) : tLc (iRng1 ta) g tYes tx vs σ H (fun x H1 => tNil σ H1 fun xs H2 => rAllF (x :: xs) H2 Q) := by
  show iRng1 ta σ H _
  refine he _ ⟨x, rfl, by omega, by omega, fun D hD => ?_⟩
  refine lc_range (lo := 0) (n := x.toNat) (fun i H1 => Same H H1 ∧ H1 D = some (.lst (lcOut (fun _ => true) (fun i => V.bl (p i)) i))) ⟨L2.Same.new hD, upd_same⟩ (fun i H1 hi ⟨e, hd⟩ => ?_) fun H1 ⟨e, hd⟩ => ?_
  · have e0 : (0 : Int) + (i : Int) = i := Int.zero_add _
    rw [e0]
    refine hx i hi H1 _ e fun H4 e4 => ?_
    exact lc_inv (c := fun _ => true) (f := fun i => V.bl (p i)) i hD e hd e4 (by omega) (fun i H1 => Same H H1 ∧ H1 D = some (.lst (lcOut (fun _ => true) (fun i => V.bl (p i)) i))) (fun H' a b => ⟨a, b⟩) rfl
  · rw [lcOut_all] at hd
    refine ⟨D, (List.range x.toNat).map p, rfl, ?_, ?_⟩
    · rw [List.map_map]
      exact hd
    · rw [List.all_map]
      exact k H1 e
theorem adj_lt : ∀ (ns : List Nat), (∀ k, k + 1 < ns.length → (ns[k]?).getD 0 < (ns[k + 1]?).getD 0) ↔ ns.Pairwise (· < ·)
  | [] => by
    constructor
    · intro _; exact .nil
    · intro _ k hk; simp at hk
  | n :: ns => by
    rw [List.pairwise_cons, ← adj_lt ns]
    constructor
    · intro h
      have h2 : ∀ k, k + 1 < ns.length → (ns[k]?).getD 0 < (ns[k + 1]?).getD 0 := fun k hk => by
        have := h (k + 1) (by rw [List.length_cons]; omega)
        simpa using this
      refine ⟨fun x hx => ?_, h2⟩
      obtain ⟨j, hj⟩ := List.mem_iff_getElem?.mp hx
      have hjl := (List.getElem?_eq_some_iff.mp hj).1
      have h0 : n < (ns[0]?).getD 0 := by
        have := h 0 (by rw [List.length_cons]; omega)
        simpa using this
      have hp := (adj_lt ns).mp h2
      rcases Nat.eq_zero_or_pos j with rfl | hj0
      · rw [hj] at h0
        exact h0
      · have h3 := List.pairwise_iff_getElem.mp hp 0 j (by omega) hjl hj0
        rw [List.getElem?_eq_getElem (by omega : 0 < ns.length), Option.getD_some] at h0
        have e := (List.getElem?_eq_some_iff.mp hj).2
        omega
    · rintro ⟨h1, h2⟩ k hk
      rw [List.length_cons] at hk
      cases k with
      | zero =>
        have : 0 < ns.length := by omega
        simp [List.getElem?_eq_getElem this]
        exact h1 _ (List.getElem_mem this)
      | succ k =>
        have := h2 k (by omega)
        simpa using this
end Un
namespace Un
open PySem L2 PySem.Spec PyProof.Rows
/-- _law_is_number: 0 _law_thing, 1 _law_many -/
def t__law_is_number : TS :=
  (tRet (tAndV (tCB rIsD (tCons (tVar 0) (tCons (tC (.ty "int")) tNil))) (tAndV (tNotV (tCB rIsD (tCons (tVar 0) (tCons (tC (.ty "bool")) tNil)))) (tChain rLeI rLtI (tC (.int 0)) (tVar 0) (tVar 1)))))
/-- _law_is_lot: 0 _law_thing, 1 _law_many, 2 _law_one, 3 _law_k -/
def t__law_is_lot (K : PySem.W.Frag) : TS :=
  (tSeq (tIfS (tOr (tNot (tB (tCB rIsD (tCons (tVar 0) (tCons (tC (.ty "tuple")) tNil))))) (tNot (tB (tCB rAllF (tCons (tLc (iTup K (tVar 0)) (gName 2) tYes (tCall sp__law_is_number [] E0 (tCons (tVar 2) (tCons (tVar 1) tNil))) [2]) tNil))))) (tRet (tC (.bl false))) tNext)
    (tRet (tCB rAllF (tCons (tLc (iRng1 (tCons (tOp rSubI (tCB rLenF (tCons (tVar 0) tNil)) (tC (.int 1))) tNil)) (gName 3) tYes (tOp rLtI (tOp rIxF (tVar 0) (tVar 3)) (tOp rIxF (tVar 0) (tOp rAddI (tVar 3) (tC (.int 1))))) [3]) tNil))))
/-- _law_is_recipe: 0 _law_many, 1 _law_there, 2 _law_thing -/
def t__law_is_recipe : TS :=
  (tSeq (tIfS (tOr (tNot (tB (tCB rIsD (tCons (tVar 2) (tCons (tC (.ty "tuple")) tNil))))) (tTest (tOp rNe (tCB rLenF (tCons (tVar 2) tNil)) (tC (.int 2))))) (tRet (tC (.bl false))) tNext)
    (tSeq (tIfS (tOr (tNot (tB (tCall sp__law_is_lot [] E0 (tCons (tOp rIxF (tVar 2) (tC (.int 0))) (tCons (tVar 0) tNil))))) (tOr (tTest (tOp rEq (tCB rLenF (tCons (tOp rIxF (tVar 2) (tC (.int 0))) tNil)) (tC (.int 0)))) (tNot (tB (tCall sp__law_is_number [] E0 (tCons (tOp rIxF (tVar 2) (tC (.int 1))) (tCons (tVar 0) tNil))))))) (tRet (tC (.bl false))) tNext)
    (tRet (tAndV (tOp (rInF true) (tOp rIxF (tVar 2) (tC (.int 1))) (tOp rIxF (tVar 2) (tC (.int 0)))) (tOp (rInF true) (tOp rIxF (tVar 2) (tC (.int 1))) (tVar 1))))))
/-- _law_made: 0 _law_parts, 1 _law_things, 2 _law_barred, 3 _law_found, 4 _law_turn, 5 _law_size, 6 _law_k, 7 _law_lot, 8 _law_thing, 9 _law_one -/
def t__law_made (K : PySem.W.Frag) : TS :=
  (tSeq (tAsg (tCB rLstF (tCons (tVar 1) tNil)) (gName 3))
    (tSeq (tFor (iRng1 (tCons (tOp rIxF (tVar 0) (tC (.int 0))) tNil)) (gName 4)
    (tSeq (tAsg (tCB rLenF (tCons (tVar 3) tNil)) (gName 5))
    (tSeq (tFor (iRng1 (tCons (tCB rLenF (tCons (tOp rIxF (tVar 0) (tC (.int 2))) tNil)) tNil)) (gName 6)
    (tSeq (tAsg (tOp rIxF (tOp rIxF (tVar 0) (tC (.int 2))) (tVar 6)) (gTup K 2 (gCons (gName 7) (gCons (gName 8) gNil))))
    (tIfS (tAnd (tTest (tOp (rInF true) (tVar 6) (tVar 2))) (tAnd (tTest (tOp (rInF true) (tVar 8) (tVar 3))) (tB (tCB rAllF (tCons (tLc (iTup K (tVar 7)) (gName 9) tYes (tOp (rInF false) (tVar 9) (tVar 3)) [9]) tNil))))) (tDrop (tBM K "list" rAppend (tVar 3) (tCons (tVar 8) tNil))) tNext)))
    (tIfS (tTest (tOp rEq (tCB rLenF (tCons (tVar 3) tNil)) (tVar 5))) tBreak tNext))))
    (tRet (tVar 3))))
/-- _law_bad: 0 _law_parts, 1 _law_many, 2 _law_there, 3 _law_recipes, 4 _law_goals, 5 _law_made_here, 6 _law_recipe, 7 _law_goal -/
def t__law_bad (K : PySem.W.Frag) : TS :=
  (tSeq (tAsg (tVar 0) (gLst K 4 (gCons (gName 1) (gCons (gName 2) (gCons (gName 3) (gCons (gName 4) gNil))))))
    (tSeq (tIfS (tOr (tNot (tB (tCall sp__law_is_number [] E0 (tCons (tVar 1) (tCons (tC (.int 41)) tNil))))) (tTest (tOp rLtI (tVar 1) (tC (.int 2))))) (tRet (tC (.str "many"))) tNext)
    (tSeq (tIfS (tNot (tB (tCall sp__law_is_lot [] E0 (tCons (tVar 2) (tCons (tVar 1) tNil))))) (tRet (tC (.str "given"))) tNext)
    (tSeq (tIfS (tOr (tNot (tB (tCB rIsD (tCons (tVar 3) (tCons (tC (.ty "tuple")) tNil))))) (tTest (tOp rGtI (tCB rLenF (tCons (tVar 3) tNil)) (tC (.int 40))))) (tRet (tC (.str "recipes"))) tNext)
    (tSeq (tIfS (tNot (tB (tCB rAllF (tCons (tLc (iTup K (tVar 3)) (gName 6) tYes (tCall sp__law_is_recipe [] E0 (tCons (tVar 1) (tCons (tVar 2) (tCons (tVar 6) tNil)))) [6]) tNil)))) (tRet (tC (.str "recipes"))) tNext)
    (tSeq (tIfS (tOr (tNot (tB (tCall sp__law_is_lot [] E0 (tCons (tVar 4) (tCons (tVar 1) tNil))))) (tOr (tTest (tOp rEq (tCB rLenF (tCons (tVar 4) tNil)) (tC (.int 0)))) (tB (tCB rAnyF (tCons (tLc (iTup K (tVar 4)) (gName 7) tYes (tOp (rInF false) (tVar 7) (tVar 2)) [7]) tNil))))) (tRet (tC (.str "goals"))) tNext)
    (tSeq (tAsg (tCall sp__law_made [] E0 (tCons (tVar 0) (tCons (tVar 2) (tCons (tTup tNil) tNil)))) (gName 5))
    (tSeq (tIfS (tNot (tB (tCB rAllF (tCons (tLc (iTup K (tVar 4)) (gName 7) tYes (tOp (rInF false) (tVar 7) (tVar 5)) [7]) tNil)))) (tRet (tC (.str "goals"))) tNext)
    (tRet (tC .non))))))))))
end Un
namespace Un
open PySem L2 PySem.Spec PyProof.Rows
local macro_rules | `(tactic| tm_at "s") => `(tactic| with_reducible first
  | refine s_seq ?_ | (refine s_asg ?_; dsimp only [List.set]) | refine s_asgG ?_ | refine g_sub ?_ | refine s_sl ?_ | refine s_noPart ?_ | refine s_part ?_ | refine s_bm ?_ | refine s_lstRg ?_ | refine s_tupRg ?_ | refine s_rg1 ?_ | refine s_rg2 ?_  | refine s_isB ?_ | refine s_notB ?_ | refine s_next ?_ | refine s_ret ?_ | refine s_drop ?_ | refine s_ifs ?_ | refine s_brk ?_ | refine s_cont ?_ | refine s_retN ?_
  | refine s_var rfl ?_ | refine s_c ?_ | refine s_op ?_ | refine s_cons ?_ | refine s_nil ?_ | refine s_call ?_ | refine s_CB ?_ | refine s_un ?_
  | refine s_test ?_ | refine s_tB ?_ | refine s_k ?_ | refine s_not ?_ | refine s_and ?_ | refine s_or ?_ | refine s_notV ?_ | refine s_andV ?_ | refine s_orV ?_ | refine s_if ?_
  | refine s_add ?_ | refine s_sub ?_ | refine s_lt ?_ | refine s_le ?_ | refine s_gt ?_ | refine s_ge ?_ | refine s_eqI ?_ | refine s_neI ?_ | refine s_band ?_ | refine s_bor ?_ | refine s_neg ?_ | refine s_inv ?_
  | refine s_isN ?_ | refine s_notN ?_ | refine s_int1 ?_ | refine s_abs ?_ | refine s_min2 ?_ | refine s_max2 ?_
  | refine s_tup ?_ | refine s_lst ?_ | refine s_chain ?_ | refine s_truI ?_ | refine s_ki ?_ | refine s_sfld ?_ | refine s_fld ?_ | refine g_cons ?_ | refine g_nil ?_ | (refine g_name ?_; dsimp only [List.set]) | refine s_isD (by decide) (by assumption) ?_)
local macro_rules | `(tactic| tm_at "go") => `(tactic| repeat' (tm_at "s"))
variable {K : PySem.W.Frag}
theorem pure__law_is_number (vs : List V) (H : Hp) (Q : VK) (E : XK) (h : sp__law_is_number vs H Q E) : t__law_is_number { nx := fun _ H' => Q .non H', rt := Q } (start ["_law_thing", "_law_many"] vs) H := by
  obtain ⟨v, d, m, rfl, hd, k⟩ := h
  show t__law_is_number _ [some v, some (.int m)] H
  unfold t__law_is_number
  tm_at "go"
  have fin : ∀ b, b = idx d m → Q (.bl b) H := fun b e => by rw [e]; exact k _ (.refl _)
  refine s_ite (fun h1 => ?_) fun h1 => ?_
  · tm_at "go"
    cases d with
    | int i =>
      rw [rp_int.mp hd]
      refine iteT ?_
      tm_at "go"
      refine s_ited (fun h2 => ?_) fun h2 => ?_
      · tm_at "go"
        refine fin _ ?_
        show decide (i < m) = (decide (0 ≤ i) && decide (i ≤ m - 1))
        rw [decide_eq_true h2, Bool.true_and, Bool.eq_iff_iff, decide_eq_true_eq, decide_eq_true_eq]
        omega
      · refine fin _ ?_
        show false = (decide (0 ≤ i) && decide (i ≤ m - 1))
        rw [decide_eq_false h2, Bool.false_and]
    | bool b =>
      refine iteF ?_
      exact fin _ rfl
    | _ => cases h1
  · refine fin _ ?_
    rw [isa_int] at h1
    cases d <;> first | rfl | cases h1
theorem idx_all {ds : List PyData} {m : Int} (h : ds.all (fun d => idx d m) = true) : ∃ ns : List Nat, ds = dN ns ∧ ∀ n ∈ ns, (n : Int) < m := by
  induction ds with
  | nil => exact ⟨[], rfl, fun n h => (nomatch h)⟩
  | cons d ds ih =>
    rw [List.all_cons, Bool.and_eq_true] at h
    obtain ⟨k, rfl, hk⟩ := idx_iff.mp h.1
    obtain ⟨ns, rfl, hn⟩ := ih h.2
    refine ⟨k :: ns, rfl, fun n hn' => ?_⟩
    rcases List.mem_cons.mp hn' with rfl | hn'
    · exact hk
    · exact hn n hn'
theorem pure__law_is_lot (vs : List V) (H : Hp) (Q : VK) (E : XK) (h : sp__law_is_lot vs H Q E) : t__law_is_lot K { nx := fun _ H' => Q .non H', rt := Q } (start ["_law_thing", "_law_many", "_law_one", "_law_k"] vs) H := by
  obtain ⟨v, d, m, rfl, hd, hsz, k⟩ := h
  show t__law_is_lot K _ [some v, some (.int m), none, none] H
  unfold t__law_is_lot
  tm_at "go"
  have no : ∀ H', Same H H' → isLot d m = false → Q (.bl false) H' := fun H' e n => by
    have := k H' e
    rw [n] at this
    exact this
  cases d with
  | tuple ds =>
    obtain ⟨hl, _⟩ := szD_tup hsz
    obtain ⟨a, xs, rfl, ha, hr⟩ := rp_tup.mp hd
    have hxl := hr.length
    refine iteF ?_
    tm_at "go"
    refine s_allT ds (fun d => idx d m) ha hxl (by omega) (fun _ q => ⟨_, rfl, q⟩) (fun i x d hi hdi H1 P e1 hP => ?_) fun H1 e1 => ?_
    · obtain ⟨d', h1, h2⟩ := hr.get hi
      rw [hdi] at h1
      cases h1
      refine g_slot ⟨rfl, ?_⟩
      show tCall _ _ _ _ [some (.ref a), some (.int m), some x, none] H1 P
      tm_at "go"
      exact ⟨x, d, m, rfl, h2.up e1, fun H2 e2 => hP H2 e2⟩
    · tm_at "go"
      refine s_iten (fun h1 => ?_) fun h1 => ?_
      · tm_at "go"
        refine no _ e1 ?_
        cases q : isLot (.tuple ds) m with
        | false => rfl
        | true =>
          obtain ⟨ns, e, _, hns⟩ := isLot_iff.mp q
          unfold lotD at e
          injection e with e
          subst e
          have : (dN ns).all (fun d => idx d m) = true := List.all_eq_true.mpr fun d hd => by
            obtain ⟨n, hn, rfl⟩ := List.mem_map.mp hd
            exact idx_iff.mpr ⟨n, rfl, hns n hn⟩
          rw [this] at h1
          cases h1
      · obtain ⟨ns, rfl, hns⟩ := idx_all h1
        obtain rfl := rpAll_dN.mp hr
        rw [vN_len] at hxl
        have ha1 := e1 _ _ ha
        have hnl : ns.length ≤ 1000 := by
          unfold dN at hl
          rw [List.length_map] at hl
          exact hl
        tm_at "go"
        refine s_allRi ((ns.length : Int) - 1) (fun k => decide ((ns[k]?).getD 0 < (ns[k + 1]?).getD 0)) (by omega) (by omega) (fun Q' q => ?_) (fun i hi H2 P e2 hP => ?_) fun H2 e2 => ?_
        · tm_at "go"
          refine s_lenT ha1 ?_
          tm_at "go"
          rw [vN_len]
          exact q
        · have hi1 : i + 1 < ns.length := by omega
          refine g_slot ⟨rfl, ?_⟩
          show tOp _ _ _ [some (.ref a), some (.int m), none, some (.int (i : Nat))] H2 P
          tm_at "go"
          refine s_ixT (e2 _ _ ha1) (atI_vN (by omega)) ?_
          tm_at "go"
          have e3 : (i : Int) + 1 = ((i + 1 : Nat) : Int) := by omega
          rw [e3]
          refine s_ixT (e2 _ _ ha1) (atI_vN hi1) ?_
          tm_at "go"
          have := hP H2 (.refl _)
          rw [List.getElem?_eq_getElem (by omega), List.getElem?_eq_getElem hi1, Option.getD_some, Option.getD_some] at this
          have e4 : decide (((ns[i] : Nat) : Int) < ((ns[i + 1] : Nat) : Int)) = decide (ns[i] < ns[i + 1]) := by
            rw [Bool.eq_iff_iff, decide_eq_true_eq, decide_eq_true_eq]
            omega
          rw [e4]
          exact this
        · tm_at "go"
          have e : (List.range ((ns.length : Int) - 1).toNat).all (fun k => decide ((ns[k]?).getD 0 < (ns[k + 1]?).getD 0)) = isLot (.tuple (dN ns)) m := by
            rw [Bool.eq_iff_iff, isLot_iff, List.all_eq_true]
            constructor
            · intro h2
              refine ⟨ns, rfl, (adj_lt ns).mp fun k hk => ?_, hns⟩
              exact of_decide_eq_true (h2 k (List.mem_range.mpr (by omega)))
            · rintro ⟨ns', e, hp, _⟩ k hk
              have e' : ns = ns' := lotD_inj e
              subst e'
              have := List.mem_range.mp hk
              exact decide_eq_true ((adj_lt ns).mpr hp k (by omega))
          rw [e]
          exact k _ (e1.trans e2)
  | _ =>
    refine iteT ?_
    tm_at "go"
    exact no _ (.refl _) rfl
theorem pure__law_is_recipe (vs : List V) (H : Hp) (Q : VK) (E : XK) (h : sp__law_is_recipe vs H Q E) : t__law_is_recipe { nx := fun _ H' => Q .non H', rt := Q } (start ["_law_many", "_law_there", "_law_thing"] vs) H := by
  obtain ⟨v, d, m, g, gv, rfl, hg, hd, hsz, k⟩ := h
  show t__law_is_recipe _ [some (.int m), some (.ref g), some v] H
  unfold t__law_is_recipe
  tm_at "go"
  have no : ∀ H', Same H H' → ¬ RecOk m gv d → Q (.bl false) H' := fun H' e n => by
    have := k H' e
    rw [decP_false n] at this
    exact this
  cases d with
  | tuple ds =>
    obtain ⟨a, xs, rfl, ha, hr⟩ := rp_tup.mp hd
    refine iteF ?_
    tm_at "go"
    refine s_lenT ha ?_
    tm_at "go"
    refine s_itend (fun h1 => ?_) fun h1 => ?_
    · tm_at "go"
      refine no _ (Same.refl _) ?_
      rintro ⟨r, e, _⟩
      cases e
      exact h1 (by rw [hr.length]; rfl)
    · have hx2 : xs.length = 2 := by omega
      match xs, hx2 with
      | [x, y], _ =>
        match ds, hr.length with
        | [l, t], _ =>
          obtain ⟨_, _, e1, hl, hr1⟩ := rpAll_cons.mp hr
          cases e1
          obtain ⟨_, _, e1, ht, hr2⟩ := rpAll_cons.mp hr1
          cases e1
          tm_at "go"
          refine s_ixT ha at0 ?_
          tm_at "go"
          refine ⟨x, l, m, rfl, hl, (szD_tup hsz).2 l (List.mem_cons_self ..), fun H1 e1 => ?_⟩
          tm_at "go"
          refine s_iten (fun h2 => ?_) fun h2 => ?_
          · refine iteT ?_
            tm_at "go"
            refine no _ e1 ?_
            rintro ⟨r, e, r1, r2, _⟩
            rw [(recD_eq e).1, isLot_iff.mpr ⟨r.1, rfl, r2⟩] at h2
            cases h2
          · obtain ⟨ns, rfl, hns⟩ := isLot_iff.mp h2
            obtain ⟨b, rfl, hb⟩ := rp_lot.mp hl
            tm_at "go"
            refine s_ixT (e1 _ _ ha) at0 ?_
            tm_at "go"
            refine s_lenT (e1 _ _ hb) ?_
            tm_at "go"
            refine s_ited (fun h3 => ?_) fun h3 => ?_
            · refine iteT ?_
              tm_at "go"
              refine no _ e1 ?_
              rintro ⟨r, e, r1, _⟩
              rw [← lotD_inj (recD_eq e).1] at r1
              refine r1 ?_
              have : (vN ns).length = 0 := by omega
              rw [vN, List.length_map] at this
              exact List.eq_nil_of_length_eq_zero this
            · have hne : ns ≠ [] := by
                rintro rfl
                exact h3 rfl
              tm_at "go"
              refine s_ixT (e1 _ _ ha) at1 ?_
              tm_at "go"
              refine ⟨y, t, m, rfl, ht.up e1, fun H2 e2 => ?_⟩
              have e3 := e1.trans e2
              tm_at "go"
              refine s_iten (fun h4 => ?_) fun h4 => ?_
              · tm_at "go"
                refine no _ e3 ?_
                rintro ⟨r, e, q⟩
                rw [(recD_eq e).2, idx_iff.mpr ⟨r.2, rfl, q.2.2.1⟩] at h4
                cases h4
              · obtain ⟨n, rfl, hn⟩ := idx_iff.mp h4
                rw [rp_int.mp ht] at ha
                tm_at "go"
                refine s_ixT (e3 _ _ ha) at1 ?_
                tm_at "go"
                refine s_ixT (e3 _ _ ha) at0 ?_
                refine s_inT (e3 _ _ hb) ?_
                tm_at "go"
                show if (!decide (n ∈ ns)) = true then _ else _
                refine s_itend (fun h5 => ?_) fun h5 => ?_
                · tm_at "go"
                  refine s_ixT (e3 _ _ ha) at1 ?_
                  tm_at "go"
                  refine s_inT (e3 _ _ hg) ?_
                  show Q (.bl (!decide (n ∈ gv))) H2
                  have e : (!decide (n ∈ gv)) = decP (RecOk m gv (.tuple [lotD ns, .int n])) := by
                    refine decP_eq ?_
                    rw [Bool.not_eq_true', decide_eq_false_iff_not]
                    constructor
                    · intro h6
                      exact ⟨(ns, n), rfl, hne, hns, hn, h5, h6⟩
                    · rintro ⟨r, e, q⟩
                      have en : n = r.2 := by
                        have := (recD_eq e).2
                        injection this with this
                        omega
                      rw [en]
                      exact q.2.2.2.2
                  rw [e]
                  exact k _ e3
                · refine no _ e3 ?_
                  rintro ⟨r, e, q⟩
                  have en : n = r.2 := by
                    have := (recD_eq e).2
                    injection this with this
                    omega
                  refine q.2.2.2.1 ?_
                  rw [← en, ← lotD_inj (recD_eq e).1]
                  exact h5
  | _ =>
    refine iteT ?_
    tm_at "go"
    refine no _ (Same.refl _) ?_
    rintro ⟨r, e, _⟩
    cases e
end Un
namespace Un
open PySem L2 PySem.Spec PyProof.Rows
local macro_rules | `(tactic| tm_at "s") => `(tactic| with_reducible first
  | refine s_seq ?_ | (refine s_asg ?_; dsimp only [List.set]) | refine s_asgG ?_ | refine g_sub ?_ | refine s_sl ?_ | refine s_noPart ?_ | refine s_part ?_ | refine s_bm ?_ | refine s_lstRg ?_ | refine s_tupRg ?_ | refine s_rg1 ?_ | refine s_rg2 ?_  | refine s_isB ?_ | refine s_notB ?_ | refine s_next ?_ | refine s_ret ?_ | refine s_drop ?_ | refine s_ifs ?_ | refine s_brk ?_ | refine s_cont ?_ | refine s_retN ?_
  | refine s_var rfl ?_ | refine s_c ?_ | refine s_op ?_ | refine s_cons ?_ | refine s_nil ?_ | refine s_call ?_ | refine s_CB ?_ | refine s_un ?_
  | refine s_test ?_ | refine s_tB ?_ | refine s_k ?_ | refine s_not ?_ | refine s_and ?_ | refine s_or ?_ | refine s_notV ?_ | refine s_andV ?_ | refine s_orV ?_ | refine s_if ?_
  | refine s_add ?_ | refine s_sub ?_ | refine s_lt ?_ | refine s_le ?_ | refine s_gt ?_ | refine s_ge ?_ | refine s_eqI ?_ | refine s_neI ?_ | refine s_band ?_ | refine s_bor ?_ | refine s_neg ?_ | refine s_inv ?_
  | refine s_isN ?_ | refine s_notN ?_ | refine s_int1 ?_ | refine s_abs ?_ | refine s_min2 ?_ | refine s_max2 ?_
  | refine s_tup ?_ | refine s_lst ?_ | refine s_chain ?_ | refine s_truI ?_ | refine s_ki ?_ | refine s_sfld ?_ | refine s_fld ?_ | refine g_cons ?_ | refine g_nil ?_ | (refine g_name ?_; dsimp only [List.set]) | refine s_isD (by decide) (by assumption) ?_)
local macro_rules | `(tactic| tm_at "go") => `(tactic| repeat' (tm_at "s"))
variable {K : PySem.W.Frag}
theorem s_ixF {H : Hp} {Q : VK} {p : Addr} {xs : List V} {i : Int} {v : V} (h : H p = some (.lst xs) ∨ H p = some (.tup xs)) (e : atI xs i = some v) (q : Q v H) : rIxF (.ref p) (.int i) H Q := ⟨p, xs, i, v, rfl, rfl, h, e, q⟩
theorem madeL_snoc {rs : List Rec} {m : Nat} {gv L : List Nat} (h : MadeL rs m gv L) {r : Rec} (hr : r ∈ rs) (hrm : r.2 < m) (hn : r.2 ∉ L) (ha : ∀ n ∈ r.1, n ∈ L) : MadeL rs m gv (L ++ [r.2]) where
  nd := List.nodup_append.mpr ⟨h.nd, by simp, fun a ha b hb => by
    have e : b = r.2 := by simpa using hb
    rw [e]
    rintro rfl
    exact hn ha⟩
  lt := fun n hx => by
    rcases List.mem_append.mp hx with hx | hx
    · exact h.lt n hx
    · rw [List.mem_singleton.mp hx]
      exact hrm
  base := fun n hx => List.mem_append_left _ (h.base n hx)
  least := fun S h1 h2 n hx => by
    rcases List.mem_append.mp hx with hx | hx
    · exact h.least S h1 h2 n hx
    · rw [List.mem_singleton.mp hx]
      exact h2 r hr fun n hn => h.least S h1 h2 n (ha n hn)
theorem pure__law_made (vs : List V) (H : Hp) (Q : VK) (E : XK) (h : sp__law_made vs H Q E) : t__law_made K { nx := fun _ H' => Q .non H', rt := Q } (start ["_law_parts", "_law_things", "_law_barred", "_law_found", "_law_turn", "_law_size", "_law_k", "_law_lot", "_law_thing", "_law_one"] vs) H := by
  obtain ⟨p, a2, g, z, m, xs, rs, gv, rfl, hp, hx0, hx2, hg, hz, hrs, hm, hrl, hnd, hgm, hrm, k⟩ := h
  obtain ⟨_, ys, e, ha, hyl, hy⟩ := rp_recs hrs
  cases e
  show t__law_made K _ [some (.ref p), some (.ref g), some (.ref z), none, none, none, none, none, none, none] H
  unfold t__law_made
  tm_at "go"
  refine s_lstT hg fun q hq => ?_
  tm_at "go"
  have M0 : MadeL rs m gv gv := ⟨hnd, hgm, fun n h => h, fun S h1 _ n hn => h1 n hn⟩
  have pS : ∀ {H1}, Same H H1 → H1 p = some (.lst xs) ∨ H1 p = some (.tup xs) := fun e => hp.imp (fun h => e _ _ h) fun h => e _ _ h
  have fin : ∀ (L : List Nat) (H1 : Hp) (y4 y5 y6 y7 y8 : Option V), Same H H1 → H1 q = some (.lst (vN L)) → MadeL rs m gv L → ClosedL rs L → tRet (tVar 3) { nx := fun _ H' => Q .non H', rt := Q } [some (.ref p), some (.ref g), some (.ref z), some (.ref q), y4, y5, y6, y7, y8, none] H1 := by
    intro L H1 y4 y5 y6 y7 y8 e1 hL hM hC
    tm_at "go"
    exact k L q H1 (madeL_made hM hC fun r hr => (hrm r hr).1) hq e1 hL
  refine s_forR m (fun i σ H1 => ∃ (L : List Nat) (y4 y5 y6 y7 y8 : Option V), σ = [some (.ref p), some (.ref g), some (.ref z), some (.ref q), y4, y5, y6, y7, y8, none] ∧ Same H H1 ∧ H1 q = some (.lst (vN L)) ∧ MadeL rs m gv L ∧ i ≤ L.length)
    (by omega) ⟨gv, none, none, none, none, none, rfl, L2.Same.new hq, upd_same, M0, Nat.zero_le _⟩ ?_ ?_ fun Q' h => ?_
  · rintro i σ H1 hi ⟨L, y4, y5, y6, y7, y8, rfl, e1, hL, hM, hiL⟩
    refine g_slot ?_
    show tSeq _ _ _ [some (.ref p), some (.ref g), some (.ref z), some (.ref q), some (.int (i : Nat)), y5, y6, y7, y8, none] H1
    tm_at "go"
    refine s_lenL hL ?_
    tm_at "go"
    rw [vN_len]
    refine s_forR rs.length (fun j σ H2 => ∃ (L' : List Nat) (y6 y7 y8 : Option V), σ = [some (.ref p), some (.ref g), some (.ref z), some (.ref q), some (.int (i : Nat)), some (.int (L.length : Nat)), y6, y7, y8, none] ∧ Same H H2 ∧ H2 q = some (.lst (vN L')) ∧ MadeL rs m gv L' ∧ L.length ≤ L'.length ∧
        (L'.length = L.length → L' = L ∧ ∀ (j' : Nat) r, j' < j → rs[j']? = some r → (∀ n ∈ r.1, n ∈ L) → r.2 ∈ L))
      (by omega) ⟨L, _, _, _, rfl, e1, hL, hM, Nat.le_refl _, fun _ => ⟨rfl, fun j' r h => absurd h (Nat.not_lt_zero _)⟩⟩ ?_ ?_ fun Q' h => ?_
    · rintro j σ H2 hj ⟨L', y6, y7, y8, rfl, e2, hL2, hM2, hle, hno⟩
      refine g_slot ?_
      show tSeq _ _ _ [some (.ref p), some (.ref g), some (.ref z), some (.ref q), some (.int (i : Nat)), some (.int (L.length : Nat)), some (.int (j : Nat)), y7, y8, none] H2
      obtain ⟨r, b, hr, hyr, c, hb, hc⟩ := hy j (ys[j]'(by omega)) (List.getElem?_eq_getElem (by omega))
      have hr2 := hrm r (List.mem_of_getElem? hr)
      tm_at "go"
      refine s_ixF (pS e2) hx2 ?_
      tm_at "go"
      refine s_ixT (e2 _ _ ha) (v := .ref b) (by rw [atI_nat, List.getElem?_eq_getElem (by omega), hyr]) ?_
      refine g_tup (e2 _ _ hb) rfl ?_
      tm_at "go"
      have stay : ∀ H3, Same H H3 → H3 q = some (.lst (vN L')) → ((∀ n ∈ r.1, n ∈ L') → r.2 ∈ L') → ∃ (L'' : List Nat) (y6' y7' y8' : Option V), ([some (.ref p), some (.ref g), some (.ref z), some (.ref q), some (.int (i : Nat)), some (.int (L.length : Nat)), some (.int (j : Nat)), some (.ref c), some (.int (r.2 : Int)), none] : L2.St) = [some (.ref p), some (.ref g), some (.ref z), some (.ref q), some (.int (i : Nat)), some (.int (L.length : Nat)), y6', y7', y8', none] ∧ Same H H3 ∧ H3 q = some (.lst (vN L'')) ∧ MadeL rs m gv L'' ∧ L.length ≤ L''.length ∧
        (L''.length = L.length → L'' = L ∧ ∀ (j' : Nat) r, j' < j + 1 → rs[j']? = some r → (∀ n ∈ r.1, n ∈ L) → r.2 ∈ L) := by
        intro H3 e3 h3 hs
        refine ⟨L', _, _, _, rfl, e3, h3, hM2, hle, fun hl => ?_⟩
        obtain ⟨q1, q2⟩ := hno hl
        refine ⟨q1, fun j' r' hj' hr' hn => ?_⟩
        by_cases ej : j' = j
        · subst ej
          rw [hr] at hr'
          cases hr'
          rw [q1] at hs
          exact hs hn
        · exact q2 j' r' (by omega) hr' hn
      refine s_inT (ns := []) (e2 _ _ hz) ?_
      tm_at "go"
      refine iteT ?_
      tm_at "go"
      refine s_inL hL2 ?_
      tm_at "go"
      refine s_itend (fun h2 => ?_) fun h2 => ?_
      · tm_at "go"
        refine s_allT r.1 (fun n => decide (n ∈ L')) (e2 _ _ hc) (by rw [vN_len]) (by rw [vN_len]; omega) (fun _ q => ⟨_, rfl, q⟩) (fun l x n hxl hnl H3 P e3 hP => ?_) fun H3 e3 => ?_
        · unfold vN at hxl
          rw [List.getElem?_map, hnl] at hxl
          cases hxl
          refine g_slot ⟨rfl, ?_⟩
          show tOp _ _ _ [some (.ref p), some (.ref g), some (.ref z), some (.ref q), some (.int (i : Nat)), some (.int (L.length : Nat)), some (.int (j : Nat)), some (.ref c), some (.int (r.2 : Int)), some (.int (n : Int))] H3 P
          tm_at "go"
          refine s_inL (e3 _ _ hL2) ?_
          exact hP _ (.refl _)
        · have hL3 := e3 _ _ hL2
          tm_at "go"
          refine s_ite (fun h3 => ?_) fun h3 => ?_
          · tm_at "go"
            refine s_tyL hL3 ?_
            have hlt : L'.length < 100000 := by
              have := nodup_len (L := L') (L' := List.range m) hM2.nd fun t ht => List.mem_range.mpr (hM2.lt t ht)
              rw [List.length_range] at this
              omega
            tm_at "go"
            refine s_app hL3 (by rw [vN_len]; exact hlt) ?_
            have hall : ∀ n ∈ r.1, n ∈ L' := fun n hn => of_decide_eq_true (List.all_eq_true.mp h3 n hn)
            refine ⟨L' ++ [r.2], _, _, _, rfl, (e2.trans e3).out hq, ?_, madeL_snoc hM2 (List.mem_of_getElem? hr) hr2.1 h2 hall, ?_, fun hl => ?_⟩
            · rw [upd_same]
              unfold vN
              rw [List.map_append]
              rfl
            · rw [List.length_append]
              omega
            · rw [List.length_append] at hl
              have : [r.2].length = 1 := rfl
              omega
          · tm_at "go"
            refine stay H3 (e2.trans e3) hL3 fun hn => ?_
            have : r.1.all (fun n => decide (n ∈ L')) = true := List.all_eq_true.mpr fun n h => decide_eq_true (hn n h)
            rw [this] at h3
            cases h3
      · refine iteF (s_next ?_)
        exact stay H2 e2 hL2 fun _ => h2
    · rintro σ H2 ⟨L', y6, y7, y8, rfl, e2, hL2, hM2, hle, hno⟩
      tm_at "go"
      refine s_lenL hL2 ?_
      tm_at "go"
      rw [vN_len]
      refine s_ited (fun h1 => ?_) fun h1 => ?_
      · refine s_brk ?_
        obtain ⟨q1, q2⟩ := hno (by omega)
        refine fin L' H2 _ _ _ _ _ e2 hL2 hM2 fun r hr hn => ?_
        obtain ⟨j, hj⟩ := List.mem_iff_getElem?.mp hr
        rw [q1] at hn ⊢
        exact q2 j r (List.getElem?_eq_some_iff.mp hj).1 hj hn
      · tm_at "go"
        exact ⟨L', _, _, _, _, _, rfl, e2, hL2, hM2, by omega⟩
    · tm_at "go"
      refine s_ixF (pS e1) hx2 ?_
      tm_at "go"
      refine s_lenT (e1 _ _ ha) ?_
      rw [hyl]
      exact h
  · rintro σ H1 ⟨L, y4, y5, y6, y7, y8, rfl, e1, hL, hM, hiL⟩
    exact fin L H1 _ _ _ _ _ e1 hL hM (ClosedL.full hM (fun r hr => (hrm r hr).1) hiL)
  · tm_at "go"
    refine s_ixF (pS (L2.Same.new hq)) hx0 ?_
    tm_at "go"
    exact h
end Un
namespace Un
open PySem L2 PySem.Spec PyProof.Rows
local macro_rules | `(tactic| tm_at "s") => `(tactic| with_reducible first
  | refine s_seq ?_ | (refine s_asg ?_; dsimp only [List.set]) | refine s_asgG ?_ | refine g_sub ?_ | refine s_sl ?_ | refine s_noPart ?_ | refine s_part ?_ | refine s_bm ?_ | refine s_lstRg ?_ | refine s_tupRg ?_ | refine s_rg1 ?_ | refine s_rg2 ?_  | refine s_isB ?_ | refine s_notB ?_ | refine s_next ?_ | refine s_ret ?_ | refine s_drop ?_ | refine s_ifs ?_ | refine s_brk ?_ | refine s_cont ?_ | refine s_retN ?_
  | refine s_var rfl ?_ | refine s_c ?_ | refine s_op ?_ | refine s_cons ?_ | refine s_nil ?_ | refine s_call ?_ | refine s_CB ?_ | refine s_un ?_
  | refine s_test ?_ | refine s_tB ?_ | refine s_k ?_ | refine s_not ?_ | refine s_and ?_ | refine s_or ?_ | refine s_notV ?_ | refine s_andV ?_ | refine s_orV ?_ | refine s_if ?_
  | refine s_add ?_ | refine s_sub ?_ | refine s_lt ?_ | refine s_le ?_ | refine s_gt ?_ | refine s_ge ?_ | refine s_eqI ?_ | refine s_neI ?_ | refine s_band ?_ | refine s_bor ?_ | refine s_neg ?_ | refine s_inv ?_
  | refine s_isN ?_ | refine s_notN ?_ | refine s_int1 ?_ | refine s_abs ?_ | refine s_min2 ?_ | refine s_max2 ?_
  | refine s_tup ?_ | refine s_lst ?_ | refine s_chain ?_ | refine s_truI ?_ | refine s_ki ?_ | refine s_sfld ?_ | refine s_fld ?_ | refine g_cons ?_ | refine g_nil ?_ | (refine g_name ?_; dsimp only [List.set]) | refine s_isD (by decide) (by assumption) ?_)
local macro_rules | `(tactic| tm_at "go") => `(tactic| repeat' (tm_at "s"))
variable {K : PySem.W.Frag}
theorem recs_of_all {m : Int} {gv : List Nat} : ∀ {ds : List PyData}, ds.all (fun d => decP (RecOk m gv d)) = true → ∃ rs : List Rec, ds = rs.map recD ∧ ∀ r ∈ rs, RecN m gv r
  | [], _ => ⟨[], rfl, fun r h => (nomatch h)⟩
  | d :: ds, h => by
    rw [List.all_cons, Bool.and_eq_true] at h
    obtain ⟨r, rfl, hr⟩ := decP_iff.mp h.1
    obtain ⟨rs, rfl, hrs⟩ := recs_of_all h.2
    refine ⟨r :: rs, rfl, fun r' hr' => ?_⟩
    rcases List.mem_cons.mp hr' with rfl | hr'
    · exact hr
    · exact hrs r' hr'
theorem pure__law_bad (vs : List V) (H : Hp) (Q : VK) (E : XK) (h : sp__law_bad vs H Q E) : t__law_bad K { nx := fun _ H' => Q .non H', rt := Q } (start ["_law_parts", "_law_many", "_law_there", "_law_recipes", "_law_goals", "_law_made_here", "_law_recipe", "_law_goal"] vs) H := by
  obtain ⟨p, v0, v1, v2, v3, d0, d1, d2, d3, rfl, hp, r0, r1, r2, r3, z1, z2, z3, k⟩ := h
  show t__law_bad K _ [some (.ref p), none, none, none, none, none, none, none] H
  unfold t__law_bad
  have out : ∀ (b : Option Str) H', badP d0 d1 d2 d3 = b → Same H H' → Q (badV b) H' := fun b H' e h => by rw [← e]; exact k _ h
  tm_at "go"
  refine g_lst hp rfl ?_
  tm_at "go"
  refine ⟨v0, d0, 41, rfl, r0, fun H1 e1 => ?_⟩
  tm_at "go"
  have eb0 : btw d0 2 40 = false → Q (.str ("many" : Str)) H1 := fun h => out (some "many") _ (by unfold badP; rw [if_pos h]) e1
  refine s_iten (fun h0 => ?_) fun h0 => ?_
  · refine iteT ?_
    tm_at "go"
    refine eb0 ?_
    cases d0 with
    | int i =>
      have h0' : (decide (0 ≤ i) && decide (i ≤ 41 - 1)) = false := h0
      show (decide (2 ≤ i) && decide (i ≤ 40)) = false
      rw [Bool.and_eq_false_iff, decide_eq_false_iff_not, decide_eq_false_iff_not] at h0' ⊢
      omega
    | _ => rfl
  obtain ⟨m, rfl, hm⟩ := idx_iff.mp h0
  obtain rfl := rp_int.mp r0
  tm_at "go"
  refine s_ited (fun h2 => ?_) fun h2 => ?_
  · tm_at "go"
    refine eb0 ?_
    show (decide (2 ≤ (m : Int)) && decide ((m : Int) ≤ 40)) = false
    rw [decide_eq_false (by omega), Bool.false_and]
  have b0 : ¬ btw (.int (m : Int)) 2 40 = false := by
    show ¬ (decide (2 ≤ (m : Int)) && decide ((m : Int) ≤ 40)) = false
    rw [decide_eq_true (by omega), decide_eq_true (by omega)]
    decide
  tm_at "go"
  refine ⟨v1, d1, m, rfl, r1.up e1, z1, fun H2 e2 => ?_⟩
  have f2 := e1.trans e2
  tm_at "go"
  refine s_iten (fun h1 => ?_) fun h1 => ?_
  · tm_at "go"
    refine out (some "given") _ ?_ f2
    unfold badP
    rw [if_neg b0, if_pos (show isLot d1 (toI (.int (m : Int))) = false from h1)]
  have b1 : ¬ isLot d1 (toI (.int (m : Int))) = false := by
    show ¬ isLot d1 (m : Int) = false
    rw [h1]
    decide
  obtain ⟨gv, rfl, hgv⟩ := isLot_iff.mp h1
  obtain ⟨g, rfl, hg⟩ := rp_lot.mp r1
  have badR : ∀ H', Same H H' → ¬ RecsOk m gv d2 → Q (.str ("recipes" : Str)) H' := fun H' e h => by
    refine out (some "recipes") _ ?_ e
    unfold badP
    rw [if_neg b0, if_neg b1, toNs_lot, if_pos]
    exact decP_false h
  have r2' := r2.up f2
  tm_at "go"
  cases d2 with
  | tuple ds =>
    obtain ⟨hl2, hz2⟩ := szD_tup z2
    obtain ⟨ra, xs, rfl, hra, hxs⟩ := rp_tup.mp r2
    have hxl := hxs.length
    refine iteF ?_
    tm_at "go"
    refine s_lenT (f2 _ _ hra) ?_
    tm_at "go"
    refine s_ited (fun h3 => ?_) fun h3 => ?_
    · tm_at "go"
      refine badR _ f2 ?_
      rintro ⟨rs, e, hl, _⟩
      unfold recsD at e
      injection e with e
      rw [e, List.length_map] at hxl
      omega
    tm_at "go"
    refine s_allT ds (fun d => decP (RecOk m gv d)) (f2 _ _ hra) hxl (by omega) (fun _ q => ⟨_, rfl, q⟩) (fun i x d hi hdi H3 P e3 hP => ?_) fun H3 e3 => ?_
    · obtain ⟨d', h4, h5⟩ := hxs.get hi
      rw [hdi] at h4
      cases h4
      refine g_slot ⟨rfl, ?_⟩
      show tCall _ _ _ _ [some (.ref p), some (.int (m : Int)), some (.ref g), some (.ref ra), some v3, none, some x, none] H3 P
      tm_at "go"
      exact ⟨x, d, m, g, gv, rfl, (f2.trans e3) _ _ hg, h5.up (f2.trans e3), hz2 d (List.mem_of_getElem? hdi), fun H4 e4 => hP H4 e4⟩
    have f3 := f2.trans e3
    tm_at "go"
    refine s_iten (fun h4 => ?_) fun h4 => ?_
    · tm_at "go"
      refine badR _ f3 ?_
      rintro ⟨rs, e, hl, hrs⟩
      unfold recsD at e
      injection e with e
      have : ds.all (fun d => decP (RecOk m gv d)) = true := List.all_eq_true.mpr fun d hd => by
        rw [e] at hd
        obtain ⟨r, hr, rfl⟩ := List.mem_map.mp hd
        exact decP_true ⟨r, rfl, hrs r hr⟩
      rw [this] at h4
      cases h4
    obtain ⟨rs, rfl, hrs⟩ := recs_of_all h4
    rw [List.length_map] at hxl hl2
    have hrecs : RecsOk m gv (recsD rs) := ⟨rs, rfl, by omega, hrs⟩
    have b2 : ¬ decP (RecsOk (toI (.int (m : Int))) (toNs (lotD gv)) (recsD rs)) = false := by
      rw [toNs_lot]
      rw [show decP (RecsOk (toI (.int (m : Int))) gv (recsD rs)) = true from decP_true hrecs]
      decide
    have badG : ∀ H', Same H H' → ¬ GoalsOk m gv rs d3 → Q (.str ("goals" : Str)) H' := fun H' e h => by
      refine out (some "goals") _ ?_ e
      show badP (.int (m : Int)) (lotD gv) (recsD rs) d3 = _
      unfold badP
      rw [if_neg b0, if_neg b1, if_neg b2, toNs_lot, toRs_recs, if_pos]
      exact decP_false h
    have good : ∀ H', Same H H' → GoalsOk m gv rs d3 → Q .non H' := fun H' e h => by
      refine out none _ ?_ e
      show badP (.int (m : Int)) (lotD gv) (recsD rs) d3 = _
      unfold badP
      rw [if_neg b0, if_neg b1, if_neg b2, toNs_lot, toRs_recs, if_neg]
      rw [show decP (GoalsOk (toI (.int (m : Int))) gv rs d3) = true from decP_true h]
      decide
    tm_at "go"
    refine ⟨v3, d3, m, rfl, r3.up f3, z3, fun H4 e4 => ?_⟩
    have f4 := f3.trans e4
    tm_at "go"
    refine s_iten (fun h5 => ?_) fun h5 => ?_
    · refine iteT ?_
      tm_at "go"
      refine badG _ f4 ?_
      rintro ⟨gl, rfl, q, _⟩
      rw [isLot_iff.mpr ⟨gl, rfl, q⟩] at h5
      cases h5
    obtain ⟨gl, rfl, hgl⟩ := isLot_iff.mp h5
    obtain ⟨ga, rfl, hga⟩ := rp_lot.mp r3
    have hglen : gl.length ≤ 1000 := by
      have := (szD_tup z3).1
      unfold dN at this
      rw [List.length_map] at this
      exact this
    tm_at "go"
    refine s_lenT (f4 _ _ hga) ?_
    tm_at "go"
    refine s_ited (fun h6 => ?_) fun h6 => ?_
    · refine iteT ?_
      tm_at "go"
      refine badG _ f4 ?_
      rintro ⟨gl', e, _, q, _⟩
      rw [← lotD_inj e] at q
      refine q ?_
      rw [vN_len] at h6
      exact List.eq_nil_of_length_eq_zero (by omega)
    tm_at "go"
    refine s_anyT gl (fun n => decide (n ∈ gv)) (f4 _ _ hga) (by rw [vN_len]) (by rw [vN_len]; omega) (fun _ q => ⟨_, rfl, q⟩) (fun i x n hx hn H5 P e5 hP => ?_) fun H5 e5 => ?_
    · unfold vN at hx
      rw [List.getElem?_map, hn] at hx
      cases hx
      refine g_slot ⟨rfl, ?_⟩
      show tOp _ _ _ [some (.ref p), some (.int (m : Int)), some (.ref g), some (.ref ra), some (.ref ga), none, none, some (.int (n : Int))] H5 P
      tm_at "go"
      refine s_inT ((f4.trans e5) _ _ hg) ?_
      exact hP _ (.refl _)
    have f5 := f4.trans e5
    tm_at "go"
    refine s_ite (fun h7 => ?_) fun h7 => ?_
    · tm_at "go"
      refine badG _ f5 ?_
      rintro ⟨gl', e, _, _, q, _⟩
      rw [← lotD_inj e] at q
      obtain ⟨n, h8, h9⟩ := List.any_eq_true.mp h7
      exact q n h8 (of_decide_eq_true h9)
    have hgg : ∀ n ∈ gl, n ∉ gv := fun n hn hm => by
      have : gl.any (fun n => decide (n ∈ gv)) = true := List.any_eq_true.mpr ⟨n, hn, decide_eq_true hm⟩
      rw [h7] at this
      cases this
    tm_at "go"
    refine ⟨by rw [sizeLine_eq]; decide, fun z hz => ?_⟩
    have f6 := f5.trans (L2.Same.new (o := .tup []) hz)
    tm_at "go"
    refine ⟨p, ra, g, z, m, [.int (m : Int), .ref g, .ref ra, .ref ga], rs, gv, rfl, .inl (f6 _ _ hp), rfl, rfl, f6 _ _ hg, upd_same, (show Rp H (recsD rs) (.ref ra) from r2).up f6, by omega, by omega, hgv.1.imp fun {a b} h => Nat.ne_of_lt h, fun n hn => by have := hgv.2 n hn; omega, fun r hr => ?_, fun L q H7 hL hq e7 hq7 => ?_⟩
    · obtain ⟨_, q2, q3, _⟩ := hrs r hr
      refine ⟨by omega, ?_⟩
      have := lot_len r.1 0 m q2.1 fun n hn => ⟨Nat.zero_le _, by have := q2.2 n hn; omega⟩
      omega
    have f7 := f6.trans e7
    tm_at "go"
    refine s_allT gl (fun n => decide (n ∈ L)) (f7 _ _ hga) (by rw [vN_len]) (by rw [vN_len]; omega) (fun _ q => ⟨_, rfl, q⟩) (fun i x n hx hn H8 P e8 hP => ?_) fun H8 e8 => ?_
    · unfold vN at hx
      rw [List.getElem?_map, hn] at hx
      cases hx
      refine g_slot ⟨rfl, ?_⟩
      show tOp _ _ _ [some (.ref p), some (.int (m : Int)), some (.ref g), some (.ref ra), some (.ref ga), some (.ref q), none, some (.int (n : Int))] H8 P
      tm_at "go"
      refine s_inL (e8 _ _ hq7) ?_
      exact hP _ (.refl _)
    have f8 := f7.trans e8
    tm_at "go"
    refine s_iten (fun h9 => ?_) fun h9 => ?_
    · tm_at "go"
      refine badG _ f8 ?_
      rintro ⟨gl', e, _, _, _, q⟩
      rw [← lotD_inj e] at q
      have hq := q (mk L) (by rw [Int.toNat_natCast]; exact hL)
      have : gl.all (fun n => decide (n ∈ L)) = true := List.all_eq_true.mpr fun n hn => by
        have := hq n (by rw [bit_mk]; exact decide_eq_true hn)
        rw [bit_mk] at this
        exact this
      rw [this] at h9
      cases h9
    · tm_at "go"
      refine good _ f8 ⟨gl, rfl, hgl, fun e => h6 (by rw [e]; rfl), hgg, fun R hR => ?_⟩
      rw [Int.toNat_natCast] at hR
      rw [hR.uniq hL]
      intro n hn
      rw [bit_mk] at hn ⊢
      exact List.all_eq_true.mp h9 n (of_decide_eq_true hn)
  | _ =>
    refine iteT ?_
    tm_at "go"
    refine badR _ f2 ?_
    rintro ⟨rs, e, _⟩
    cases e
end Un
/-! Expressions that lay data: what they evaluate to, as a predicate. -/
namespace Un
open PySem L2 PySem.Spec PyProof.Rows
/-- e evaluates to some datum of P, laid beside what stands still -/
def EvP (a : Addr) (G0 : Hp) (σ : L2.St) (te : TE) (P : PyData → Prop) : Prop := ∀ (G H : Hp) (Q : VK), HandAt G H a → Same G0 G → (∀ v d G' H', P d → Rp G' d v → Stp a G H G' H' → Q v H') → te σ H Q
def EvPs (a : Addr) (G0 : Hp) (σ : L2.St) (ta : TA) (P : List PyData → Prop) : Prop := ∀ (G H : Hp) (Q : List V → Hp → Prop), HandAt G H a → Same G0 G → (∀ vs ds G' H', P ds → RpAll G' ds vs → Stp a G H G' H' → Q vs H') → ta σ H Q
/-- no long tuples in it -/
abbrev ZD (d : PyData) : Prop := szD d = true
def ZL (n : Nat) (ds : List PyData) : Prop := ds.length = n ∧ ∀ d ∈ ds, szD d = true
/-- a list of n such -/
def LZ (n : Nat) (d : PyData) : Prop := ∃ ds, d = .list ds ∧ ZL n ds
/-- a tuple of at most n such -/
def TZ (n : Nat) (d : PyData) : Prop := ∃ ds, d = .tuple ds ∧ ds.length ≤ n ∧ ∀ d ∈ ds, szD d = true
/-- a list of at most n numbers -/
def NL (n : Nat) (d : PyData) : Prop := ∃ ns : List Nat, d = .list (dN ns) ∧ ns.length ≤ n
def IsI (i : Int) (d : PyData) : Prop := d = .int i
section
variable {a : Addr} {G0 : Hp} {σ : L2.St} {te tb : TE} {ta : TA} {P P' : PyData → Prop} {n k : Nat} {i j : Int} {v : V} {d : PyData}
theorem EvP.imp (h : EvP a G0 σ te P) (hi : ∀ d, P d → P' d) : EvP a G0 σ te P' := fun G H Q hh g q => h G H Q hh g fun v d G' H' hp => q v d G' H' (hi d hp)
theorem EvP.up {G1 : Hp} (h : EvP a G0 σ te P) (e : Same G0 G1) : EvP a G1 σ te P := fun G H Q hh g q => h G H Q hh (e.trans g) q
theorem ev_var (hs : σ[n]? = some (some v)) (hr : Rp G0 d v) (hp : P d) : EvP a G0 σ (tVar n) P := fun G H Q hh g q => ⟨v, hs, q v d G H hp (hr.up g) (.refl hh)⟩
theorem ev_int : EvP a G0 σ (tC (.int i)) (IsI i) := fun G H Q hh g q => q _ _ G H rfl Rp.int (.refl hh)
theorem ev_bl {b : Bool} : EvP a G0 σ (tC (.bl b)) ZD := fun G H Q hh g q => q _ (.bool b) G H rfl Rp.bool (.refl hh)
theorem ev_non : EvP a G0 σ (tC .non) ZD := fun G H Q hh g q => q _ .none G H rfl Rp.none (.refl hh)
theorem ev_intZ (h : EvP a G0 σ te (IsI i)) : EvP a G0 σ te ZD := h.imp fun d e => by rw [e]; rfl
theorem ev_neg (h : EvP a G0 σ te (IsI i)) : EvP a G0 σ (tUn rNeg te) (IsI (-i)) := fun G H Q hh g q => h G H _ hh g fun v d G' H' e hr s => by
  subst e
  rw [rp_int.mp hr]
  exact ⟨i, rfl, q _ _ G' H' rfl Rp.int s⟩
theorem ev_add (h : EvP a G0 σ te (IsI i)) (h' : EvP a G0 σ tb (IsI j)) : EvP a G0 σ (tOp rAddI te tb) (IsI (i + j)) := fun G H Q hh g q => h G H _ hh g fun v d G' H' e hr s => by
  subst e
  rw [rp_int.mp hr]
  refine h' G' H' _ s.hand (g.trans s.gg) fun v d G2 H2 e hr s2 => ?_
  subst e
  rw [rp_int.mp hr]
  exact ⟨i, j, rfl, rfl, q _ _ G2 H2 rfl Rp.int (s.call s2)⟩
theorem ev_sub (h : EvP a G0 σ te (IsI i)) (h' : EvP a G0 σ tb (IsI j)) : EvP a G0 σ (tOp rSubI te tb) (IsI (i - j)) := fun G H Q hh g q => h G H _ hh g fun v d G' H' e hr s => by
  subst e
  rw [rp_int.mp hr]
  refine h' G' H' _ s.hand (g.trans s.gg) fun v d G2 H2 e hr s2 => ?_
  subst e
  rw [rp_int.mp hr]
  exact ⟨i, j, rfl, rfl, q _ _ G2 H2 rfl Rp.int (s.call s2)⟩
theorem ev_pow (h : EvP a G0 σ te (IsI i)) (h' : EvP a G0 σ tb (IsI j)) (c : CPow i j) : EvP a G0 σ (tOp rPowI te tb) (IsI (i ^ j.toNat)) := fun G H Q hh g q => h G H _ hh g fun v d G' H' e hr s => by
  subst e
  rw [rp_int.mp hr]
  refine h' G' H' _ s.hand (g.trans s.gg) fun v d G2 H2 e hr s2 => ?_
  subst e
  rw [rp_int.mp hr]
  exact ⟨i, j, rfl, rfl, c, q _ _ G2 H2 rfl Rp.int (s.call s2)⟩
theorem ev_str (h : EvP a G0 σ te (IsI i)) (hs : i.natAbs.log2 < 1920) : EvP a G0 σ (tCB rStrI (tCons te tNil)) ZD := fun G H Q hh g q => h G H _ hh g fun v d G' H' e hr s => by
  subst e
  rw [rp_int.mp hr]
  exact ⟨i, rfl, hs, q _ (.str (toString i)) G' H' rfl Rp.str s⟩
theorem evs_nil : EvPs a G0 σ tNil (ZL 0) := fun G H Q hh g q => q _ [] G H ⟨rfl, fun d h => (nomatch h)⟩ .nil (.refl hh)
theorem evs_cons (h : EvP a G0 σ te ZD) (h' : EvPs a G0 σ ta (ZL n)) : EvPs a G0 σ (tCons te ta) (ZL (n + 1)) := fun G H Q hh g q => h G H _ hh g fun v d G' H' hz hr s =>
  h' G' H' _ s.hand (g.trans s.gg) fun vs ds G2 H2 hz2 hr2 s2 => q _ (d :: ds) G2 H2 ⟨by rw [List.length_cons, hz2.1], fun e he => by
    rcases List.mem_cons.mp he with rfl | he
    · exact hz
    · exact hz2.2 e he⟩ (.cons (hr.up s2.gg) hr2) (s.call s2)
theorem ev_tup (h : EvPs a G0 σ ta (ZL n)) (hn : n ≤ 1000) : EvP a G0 σ (tTup ta) (TZ n) := fun G H Q hh g q => h G H _ hh g fun vs ds G' H' hz hr s =>
  ⟨by rw [hr.length, hz.1, sizeLine_eq]; omega, fun p hp => q _ (.tuple ds) _ _ ⟨ds, rfl, Nat.le_of_eq hz.1, hz.2⟩ (Rp.tup upd_same (hr.up (L2.Same.new (gfree s.gh hp)))) (s.lay hp)⟩
theorem ev_lst (h : EvPs a G0 σ ta (ZL n)) (hn : n ≤ 1000) : EvP a G0 σ (tLst ta) (LZ n) := fun G H Q hh g q => h G H _ hh g fun vs ds G' H' hz hr s =>
  ⟨by rw [hr.length, hz.1, sizeLine_eq]; omega, fun p hp => q _ (.list ds) _ _ ⟨ds, rfl, hz⟩ (Rp.lst upd_same (hr.up (L2.Same.new (gfree s.gh hp)))) (s.lay hp)⟩
theorem TZ.z (hn : n ≤ 1000) (h : TZ n d) : ZD d := by
  obtain ⟨ds, rfl, h1, h2⟩ := h
  exact szD_tup_of (by omega) h2
theorem LZ.z (hn : n ≤ 1000) (h : LZ n d) : ZD d := by
  obtain ⟨ds, rfl, h1, h2⟩ := h
  exact szD_list_of (by omega) h2
theorem ev_tupZ (h : EvP a G0 σ te (TZ n)) (hn : n ≤ 1000) : EvP a G0 σ te ZD := h.imp fun d => TZ.z hn
theorem ev_lstZ (h : EvP a G0 σ te (LZ n)) (hn : n ≤ 1000) : EvP a G0 σ te ZD := h.imp fun d => LZ.z hn
theorem ev_catL (h : EvP a G0 σ te (LZ n)) (h' : EvP a G0 σ tb (LZ k)) (hn : n + k ≤ 1000) : EvP a G0 σ (tOp rCat te tb) (LZ (n + k)) := fun G H Q hh g q => h G H _ hh g fun v d G' H' hz hr s => by
  refine h' G' H' _ s.hand (g.trans s.gg) fun w e G2 H2 hz2 hr2 s2 => ?_
  obtain ⟨ds, rfl, l1, z1⟩ := hz
  obtain ⟨es, rfl, l2, z2⟩ := hz2
  obtain ⟨b, xs, rfl, hb, hx⟩ := rp_list.mp (hr.up s2.gg)
  obtain ⟨c, ys, rfl, hc, hy⟩ := rp_list.mp hr2
  refine s_catL (s2.gh _ _ hb) (s2.gh _ _ hc) (by rw [hx.length, hy.length]; omega) fun p hp => ?_
  have g2 : Same G2 (upd G2 p (.lst (xs ++ ys))) := L2.Same.new (gfree s2.gh hp)
  refine q _ (.list (ds ++ es)) _ _ ⟨_, rfl, by rw [List.length_append]; omega, fun d hd => ?_⟩ (Rp.lst upd_same ((hx.up g2).append (hy.up g2))) ((s.call s2).lay hp)
  rcases List.mem_append.mp hd with hd | hd
  · exact z1 d hd
  · exact z2 d hd
theorem ev_catT (h : EvP a G0 σ te (TZ n)) (h' : EvP a G0 σ tb (TZ k)) (hn : n + k ≤ 100000) : EvP a G0 σ (tOp rCatP te tb) (TZ (n + k)) := fun G H Q hh g q => h G H _ hh g fun v d G' H' hz hr s => by
  refine h' G' H' _ s.hand (g.trans s.gg) fun w e G2 H2 hz2 hr2 s2 => ?_
  obtain ⟨ds, rfl, l1, z1⟩ := hz
  obtain ⟨es, rfl, l2, z2⟩ := hz2
  have hr' := hr.up s2.gg
  obtain ⟨b, xs, rfl, hb, hx⟩ := rp_tup.mp hr'
  obtain ⟨c, ys, rfl, hc, hy⟩ := rp_tup.mp hr2
  have hxl := hx.length
  have hyl := hy.length
  have st := s.call s2
  refine s_catT (s2.gh _ _ hb) (s2.gh _ _ hc) (by omega) (fun e => ?_) (fun e => ?_) fun p hp => ?_
  · exact q _ _ _ _ ⟨es, rfl, by omega, z2⟩ hr2 st
  · exact q _ _ _ _ ⟨ds, rfl, by omega, z1⟩ hr' st
  · have g2 : Same G2 (upd G2 p (.tup (xs ++ ys))) := L2.Same.new (gfree s2.gh hp)
    refine q _ (.tuple (ds ++ es)) _ _ ⟨_, rfl, by rw [List.length_append]; omega, fun d hd => ?_⟩ (Rp.tup upd_same ((hx.up g2).append (hy.up g2))) (st.lay hp)
    rcases List.mem_append.mp hd with hd | hd
    · exact z1 d hd
    · exact z2 d hd
theorem RpAll.cut {H : Hp} {ds : List PyData} {xs : List V} (h : RpAll H ds xs) (lo hi : Option Int) : ∃ es, RpAll H es (cutV xs lo hi) ∧ es.length ≤ ds.length ∧ ∀ e ∈ es, e ∈ ds := by
  refine ⟨(ds.drop (HT.sIx xs.length 0 lo)).take (HT.sIx xs.length xs.length hi - HT.sIx xs.length 0 lo), (h.drop _).take _, ?_, fun e he => List.mem_of_mem_drop (List.mem_of_mem_take he)⟩
  rw [List.length_take, List.length_drop]
  omega
theorem ev_slT {tl th : TO} {lo hi : Option Int} (h : EvP a G0 σ te (TZ n)) (hl : ∀ H Q, Q lo H → tl σ H Q) (hh' : ∀ H Q, Q hi H → th σ H Q) : EvP a G0 σ (tSl rSlTP te tl th) (TZ n) := fun G H Q hh g q => h G H _ hh g fun v d G' H' hz hr s => by
  refine hl _ _ (hh' _ _ ?_)
  obtain ⟨ds, rfl, l1, z1⟩ := hz
  obtain ⟨b, xs, rfl, hb, hx⟩ := rp_tup.mp hr
  refine s_slT (s.gh _ _ hb) (fun _ => q _ _ _ _ ⟨ds, rfl, l1, z1⟩ hr s) fun p hp => ?_
  obtain ⟨es, h1, h2, h3⟩ := hx.cut lo hi
  exact q _ (.tuple es) _ _ ⟨es, rfl, by omega, fun d hd => z1 d (h3 d hd)⟩ (Rp.tup upd_same (h1.up (L2.Same.new (gfree s.gh hp)))) (s.lay hp)
theorem ev_rev (h : EvP a G0 σ te (TZ n)) : EvP a G0 σ (tRevT te) (TZ n) := fun G H Q hh g q => h G H _ hh g fun v d G' H' hz hr s => by
  obtain ⟨ds, rfl, l1, z1⟩ := hz
  obtain ⟨b, xs, rfl, hb, hx⟩ := rp_tup.mp hr
  refine ⟨b, xs, rfl, s.gh _ _ hb, fun p hp => ?_⟩
  exact q _ (.tuple ds.reverse) _ _ ⟨_, rfl, by rw [List.length_reverse]; exact l1, fun d hd => z1 d (List.mem_reverse.mp hd)⟩ (Rp.tup upd_same (hx.rev.up (L2.Same.new (gfree s.gh hp)))) (s.lay hp)
theorem ev_list (h : EvP a G0 σ te (TZ n)) (hn : n ≤ 1000) : EvP a G0 σ (tCB rLstF (tCons te tNil)) ZD := fun G H Q hh g q => h G H _ hh g fun v d G' H' hz hr s => by
  obtain ⟨ds, rfl, l1, z1⟩ := hz
  obtain ⟨b, xs, rfl, hb, hx⟩ := rp_tup.mp hr
  refine s_nil (s_lstT (s.gh _ _ hb) fun p hp => ?_)
  exact q _ (.list ds) _ _ (szD_list_of (by omega) z1) (Rp.lst upd_same (hx.up (L2.Same.new (gfree s.gh hp)))) (s.lay hp)
theorem ev_nlit {ks : List Nat} (h : EvPs a G0 σ ta (fun ds => ds = dN ks)) (hk : ks.length ≤ 1000) : EvP a G0 σ (tLst ta) (NL ks.length) := fun G H Q hh g q => h G H _ hh g fun vs ds G' H' hz hr s => by
  subst hz
  have hv := rpAll_dN.mp hr
  refine ⟨by rw [hv, vN_len, sizeLine_eq]; omega, fun p hp => q _ (.list (dN ks)) _ _ ⟨ks, rfl, Nat.le_refl _⟩ (Rp.lst upd_same (hr.up (L2.Same.new (gfree s.gh hp)))) (s.lay hp)⟩
theorem evs_one (h : EvP a G0 σ te (IsI (k : Int))) : EvPs a G0 σ (tCons te tNil) (fun ds => ds = dN [k]) := fun G H Q hh g q => h G H _ hh g fun v d G' H' e hr s => by
  subst e
  exact q _ _ G' H' rfl (.cons hr .nil) s
theorem ev_catN (h : EvP a G0 σ te (NL n)) (h' : EvP a G0 σ tb (NL k)) (hn : n + k ≤ 1000) : EvP a G0 σ (tOp rCat te tb) (NL (n + k)) := fun G H Q hh g q => h G H _ hh g fun v d G' H' hz hr s => by
  refine h' G' H' _ s.hand (g.trans s.gg) fun w e G2 H2 hz2 hr2 s2 => ?_
  obtain ⟨ns, rfl, l1⟩ := hz
  obtain ⟨ms, rfl, l2⟩ := hz2
  obtain ⟨b, xs, rfl, hb, hx⟩ := rp_list.mp (hr.up s2.gg)
  obtain ⟨c, ys, rfl, hc, hy⟩ := rp_list.mp hr2
  have h1 := rpAll_dN.mp hx
  have h2 := rpAll_dN.mp hy
  refine s_catL (s2.gh _ _ hb) (s2.gh _ _ hc) (by rw [h1, h2, vN_len, vN_len]; omega) fun p hp => ?_
  have e3 : dN ns ++ dN ms = dN (ns ++ ms) := by unfold dN; rw [List.map_append]
  have g2 : Same G2 (upd G2 p (.lst (xs ++ ys))) := L2.Same.new (gfree s2.gh hp)
  exact q _ (.list (dN (ns ++ ms))) _ _ ⟨_, rfl, by rw [List.length_append]; omega⟩ (Rp.lst upd_same (by rw [← e3]; exact (hx.up g2).append (hy.up g2))) ((s.call s2).lay hp)
/-- tuple(sorted(xs)), tuple(xs) of numbers -/
theorem ev_tsort (h : EvP a G0 σ te (NL n)) (hn : n ≤ 1000) : EvP a G0 σ (tCB rTupF (tCons (tCB rSortedLP (tCons te tNil)) tNil)) (TZ n) := fun G H Q hh g q => h G H _ hh g fun v d G' H' hz hr s => by
  obtain ⟨ns, rfl, l1⟩ := hz
  obtain ⟨b, xs, rfl, hb, hx⟩ := rp_list.mp hr
  have h1 := rpAll_dN.mp hx
  subst h1
  refine s_nil (s_sortedL (s.gh _ _ hb) fun ls p hls _ hp => ?_)
  have s1 := s.new (o := .lst (vN ls)) hp
  refine s_nil (s_tupF upd_same fun p2 hp2 => ?_)
  refine q _ (.tuple (dN ls)) _ _ ⟨_, rfl, ?_, szD_dN⟩ (Rp.tup upd_same (rpAll_dN.mpr rfl)) (s1.lay hp2)
  unfold dN
  rw [List.length_map, hls.length_eq]
  exact l1
theorem ev_tupN (h : EvP a G0 σ te (NL n)) : EvP a G0 σ (tCB rTupF (tCons te tNil)) (TZ n) := fun G H Q hh g q => h G H _ hh g fun v d G' H' hz hr s => by
  obtain ⟨ns, rfl, l1⟩ := hz
  obtain ⟨b, xs, rfl, hb, hx⟩ := rp_list.mp hr
  have h1 := rpAll_dN.mp hx
  subst h1
  refine s_nil (s_tupF (s.gh _ _ hb) fun p2 hp2 => ?_)
  refine q _ (.tuple (dN ns)) _ _ ⟨_, rfl, ?_, szD_dN⟩ (Rp.tup upd_same (rpAll_dN.mpr rfl)) (s.lay hp2)
  unfold dN
  rw [List.length_map]
  exact l1
/-- [k for k in t if k != x], t a lot -/
theorem ev_but {K : PySem.W.Frag} {t x : Nat} {ns : List Nat} {b : Addr} (ht : (wipe σ [n])[t]? = some (some (.ref b))) (hb : G0 b = some (.tup (vN ns))) (hx : ((wipe σ [n]))[x]? = some (some (.int (k : Int)))) (hnx : n ≠ x) (hn : n < σ.length) {kk : Nat} (hl : ns.length ≤ kk) (hkk : kk ≤ 1000) (ht' : σ[t]? = some (some (.ref b))) :
    EvP a G0 σ (tLc (iTup K (tVar t)) (gName n) (tTest (tOp rNe (tVar n) (tVar x))) (tVar n) [n]) (NL kk) := fun G H Q hh g q => by
  refine s_lcNT (fun m => !decide (m = k)) id (hh.same _ _ (g _ _ hb)) (by omega) (fun _ q => ⟨_, ht', q⟩) (fun m hm H1 P N e1 h1 h2 => ?_) fun p H1 hp e1 hp1 => ?_
  · refine g_slot ⟨?_, ?_⟩
    · show ((σ.set n none).set n _).set n none = σ.set n none
      rw [List.set_set, List.set_set]
    have s1 : ((wipe σ [n]).set n (some (.int (m : Int))))[n]? = some (some (.int (m : Int))) := by
      rw [List.getElem?_set_self (by rw [wipe_length]; exact hn)]
    have s2 : ((wipe σ [n]).set n (some (.int (m : Int))))[x]? = some (some (.int (k : Int))) := by
      rw [List.getElem?_set_ne hnx]
      exact hx
    refine s_test (s_op (s_var s1 (s_var s2 (s_neI (s_k ?_)))))
    by_cases e : (m : Int) = (k : Int)
    · rw [decide_eq_true e]
      refine iteF (h2 ?_ _ (.refl _))
      show (!decide (m = k)) = false
      rw [decide_eq_true (by omega)]
      rfl
    · rw [decide_eq_false e]
      refine iteT (s_var s1 (h1 ?_ _ (.refl _)))
      show (!decide (m = k)) = true
      rw [decide_eq_false (by omega)]
      rfl
  · rw [List.map_id] at hp1
    have s := (Stp.refl hh).more e1
    have s2 := s.hold hp (gfree hh.same hp) hp1 (hh.ne hp)
    refine q _ (.list (dN (ns.filter fun m => !decide (m = k)))) _ _ ⟨_, rfl, ?_⟩ (Rp.lst upd_same (rpAll_dN.mpr rfl)) s2
    exact Nat.le_trans (List.length_filter_le _ _) hl
/-- [k for k in range(m) if k not in t] -/
theorem ev_tuprg {m : Nat} (h : EvP a G0 σ te (IsI (m : Int))) (hm : m ≤ 1000) : EvP a G0 σ (tTupRg (tRg1 te)) (TZ m) := fun G H Q hh g q => h G H _ hh g fun v d G' H' e hr s => by
  subst e
  rw [rp_int.mp hr]
  refine ⟨m, rfl, .of_le (by omega) (by omega) (by omega) (by omega), fun p hp => ?_⟩
  have hr' : RpAll (upd G' p (.tup (rgV 0 (m : Int)))) (dN (List.range m)) (rgV 0 (m : Int)) := by
    rw [rgV_nat]
    exact rpAll_dN.mpr rfl
  refine q _ (.tuple (dN (List.range m))) _ _ ⟨_, rfl, ?_, szD_dN⟩ (Rp.tup upd_same hr') (s.lay hp)
  unfold dN
  rw [List.length_map, List.length_range]
  exact Nat.le_refl _
theorem ev_ix {i : Int} {P : PyData → Prop} {ds : List PyData} {d : PyData} (h : EvP a G0 σ te (fun e => e = .tuple ds)) (h' : EvP a G0 σ tb (IsI i)) (hi : atI ds i = some d) (hp : P d) : EvP a G0 σ (tOp rIxF te tb) P := fun G H Q hh g q => h G H _ hh g fun v e G' H' hz hr s => by
  subst hz
  refine h' G' H' _ s.hand (g.trans s.gg) fun w f G2 H2 e hr2 s2 => ?_
  subst e
  rw [rp_int.mp hr2]
  obtain ⟨b, xs, rfl, hb, hx⟩ := rp_tup.mp (hr.up s2.gg)
  obtain ⟨k, hk, hk2⟩ : ∃ k, ixN ds.length i = some k ∧ ds[k]? = some d := by
    unfold atI at hi
    cases e : ixN ds.length i with
    | none => rw [e] at hi; cases hi
    | some k => rw [e] at hi; exact ⟨k, rfl, hi⟩
  obtain ⟨x, h1, h2⟩ := hx.getD hk2
  refine s_ixT (s2.gh _ _ hb) (v := x) ?_ (q _ d G2 H2 hp h2 (s.call s2))
  unfold atI
  rw [hx.length, hk]
  exact h1
theorem ev_dict : EvP a G0 σ tDNewK ZD := fun G H Q hh g q p hp => q _ (.dict []) _ _ rfl (Rp.dct upd_same) ((Stp.refl hh).lay hp)
/-- xs[draw(len(xs))], a list of such that has items -/
theorem ev_pick {n m : Nat} {v : V} {d : PyData} (h0 : σ[n]? = some (some v)) (hr : Rp G0 d v) (hd : LZ m d) (hm : 0 < m) (hm2 : m ≤ 1000) (ha : σ[0]? = some (some (.ref a))) :
    EvP a G0 σ (tOp rIxF (tVar n) (tCall sp__law_draw [] E0 (tCons (tVar 0) (tCons (tCB rLenF (tCons (tVar n) tNil)) tNil)))) ZD := fun G H Q hh g q => by
  obtain ⟨ds, rfl, l1, z1⟩ := hd
  obtain ⟨b, xs, rfl, hb, hx⟩ := rp_list.mp (hr.up g)
  have hxl := hx.length
  refine s_op (s_var h0 (s_call (s_cons (s_var ha (s_cons (s_CB (s_cons (s_var h0 (s_nil (s_lenL (hh.same _ _ hb) (s_nil ?_)))))))))))
  refine ⟨a, _, G, rfl, hh, by omega, by omega, fun k H2 hk s2 => ?_⟩
  have hkl : k < xs.length := by omega
  obtain ⟨e, h1, h2⟩ := hx.get (List.getElem?_eq_getElem hkl)
  exact s_ixL (s2.gh _ _ hb) (by rw [atI_nat, List.getElem?_eq_getElem hkl]) (q _ e G H2 (z1 e (List.mem_of_getElem? h1)) h2 s2)
end
end Un
/-! Parts spoiled by the law. -/
namespace Un
open PySem L2 PySem.Spec PyProof.Rows
def OddQ (a : Addr) (G H : Hp) (Q : VK) : Prop := ∀ d v G' H', szD d = true → Rp G' d v → Stp a G H G' H' → Q v H'
def sp__law_odd_recipe : Sp := fun vs H Q _ => ∃ (a p : Addr) (w : V) (m : Nat) (gv : List Nat) (rs : List Rec) (gl : List Nat) (r : Rec) (G : Hp), vs = [.ref a, .ref p, w] ∧ HandAt G H a ∧ Rp G (.tuple (partsD m gv rs gl)) (.ref p) ∧ Rp G (recD r) w ∧ Kit m gv rs gl ∧ r ∈ rs ∧ OddQ a G H Q
def sp__law_odd_recipes : Sp := fun vs H Q _ => ∃ (a p : Addr) (m : Nat) (gv : List Nat) (rs : List Rec) (gl : List Nat) (G : Hp), vs = [.ref a, .ref p] ∧ HandAt G H a ∧ Rp G (.tuple (partsD m gv rs gl)) (.ref p) ∧ Kit m gv rs gl ∧ OddQ a G H Q
def sp__law_odd_part : Sp := fun vs H Q _ => ∃ (a p : Addr) (kd : Nat) (m : Nat) (gv : List Nat) (rs : List Rec) (gl : List Nat) (G : Hp), vs = [.ref a, .ref p, .int (kd : Int)] ∧ kd < 4 ∧ HandAt G H a ∧ Rp G (.tuple (partsD m gv rs gl)) (.ref p) ∧ Kit m gv rs gl ∧ OddQ a G H Q
def sp__law_spoiled : Sp := fun vs H Q _ => ∃ (a p : Addr) (m : Nat) (gv : List Nat) (rs : List Rec) (gl : List Nat) (G : Hp), vs = [.ref a, .ref p] ∧ HandAt G H a ∧ Rp G (.tuple (partsD m gv rs gl)) (.ref p) ∧ Kit m gv rs gl ∧
  ∀ d0 d1 d2 d3 v0 v1 v2 v3 q G' H', szD d0 = true → szD d1 = true → szD d2 = true → szD d3 = true → Stp a G H G' H' → G' q = some (.lst [v0, v1, v2, v3]) → Rp G' d0 v0 → Rp G' d1 v1 → Rp G' d2 v2 → Rp G' d3 v3 → Q (.ref q) H'
section
variable {a : Addr} {G0 : Hp} {σ : L2.St} {te tb tc : TE} {ta : TA}
theorem ev_t0 : EvP a G0 σ (tTup tNil) ZD := ev_tupZ (ev_tup evs_nil (by decide)) (by decide)
theorem ev_t1 (h : EvP a G0 σ te ZD) : EvP a G0 σ (tTup (tCons te tNil)) ZD := ev_tupZ (ev_tup (evs_cons h evs_nil) (by decide)) (by decide)
theorem ev_t2 (h : EvP a G0 σ te ZD) (h2 : EvP a G0 σ tb ZD) : EvP a G0 σ (tTup (tCons te (tCons tb tNil))) ZD := ev_tupZ (ev_tup (evs_cons h (evs_cons h2 evs_nil)) (by decide)) (by decide)
theorem ev_t3 (h : EvP a G0 σ te ZD) (h2 : EvP a G0 σ tb ZD) (h3 : EvP a G0 σ tc ZD) : EvP a G0 σ (tTup (tCons te (tCons tb (tCons tc tNil)))) ZD := ev_tupZ (ev_tup (evs_cons h (evs_cons h2 (evs_cons h3 evs_nil))) (by decide)) (by decide)
theorem ev_l0 : EvP a G0 σ (tLst tNil) ZD := ev_lstZ (ev_lst evs_nil (by decide)) (by decide)
theorem ev_l2 (h : EvP a G0 σ te ZD) (h2 : EvP a G0 σ tb ZD) : EvP a G0 σ (tLst (tCons te (tCons tb tNil))) ZD := ev_lstZ (ev_lst (evs_cons h (evs_cons h2 evs_nil)) (by decide)) (by decide)
theorem ev_one1 (h : EvP a G0 σ te ZD) : EvP a G0 σ (tTup (tCons te tNil)) (TZ 1) := ev_tup (evs_cons h evs_nil) (by decide)
theorem ev_m1 : EvP a G0 σ (tUn rNeg (tC (.int 1))) ZD := ev_intZ (ev_neg ev_int)
theorem ev_i {i : Int} : EvP a G0 σ (tC (.int i)) ZD := ev_intZ ev_int
end
/-- what stands at the parts' places -/
theorem parts_at {G : Hp} {m : Nat} {gv gl : List Nat} {rs : List Rec} {p : Addr} (h : Rp G (.tuple (partsD m gv rs gl)) (.ref p)) : ∃ g ra ga, G p = some (.tup [.int (m : Int), .ref g, .ref ra, .ref ga]) ∧ G g = some (.tup (vN gv)) ∧ Rp G (recsD rs) (.ref ra) ∧ G ga = some (.tup (vN gl)) := by
  obtain ⟨_, xs, e, hp, hx⟩ := rp_tup.mp h
  cases e
  obtain ⟨_, _, rfl, h0, hx⟩ := rpAll_cons.mp hx
  obtain ⟨_, _, rfl, h1, hx⟩ := rpAll_cons.mp hx
  obtain ⟨_, _, rfl, h2, hx⟩ := rpAll_cons.mp hx
  obtain ⟨_, _, rfl, h3, hx⟩ := rpAll_cons.mp hx
  obtain rfl := rpAll_nil.mp hx
  obtain rfl := rp_int.mp h0
  obtain ⟨g, rfl, hg⟩ := rp_lot.mp h1
  obtain ⟨ga, rfl, hga⟩ := rp_lot.mp h3
  obtain ⟨ra, _, rfl, _⟩ := rp_recs h2
  exact ⟨g, ra, ga, hp, hg, h2, hga⟩
theorem lot_small {m : Nat} {ns : List Nat} (h : LotN (m : Int) ns) (hm : m ≤ 40) : ns.length ≤ 40 := by
  have := lot_len ns 0 m h.1 fun n hn => ⟨Nat.zero_le _, by have := h.2 n hn; omega⟩
  omega
theorem lot_tz {ns : List Nat} {k : Nat} (h : ns.length ≤ k) : TZ k (lotD ns) := ⟨dN ns, rfl, by unfold dN; rw [List.length_map]; exact h, szD_dN⟩
theorem rec_z {r : Rec} (h : r.1.length ≤ 1000) : ZD (recD r) := szD_tup_of (by show 2 ≤ 1000; decide) fun d hd => by
  rcases List.mem_cons.mp hd with rfl | hd
  · exact (lot_tz h).z (Nat.le_refl _)
  · rw [List.mem_singleton.mp hd]
    rfl
theorem recs_tz {rs : List Rec} {k : Nat} (h : rs.length ≤ k) (hr : ∀ r ∈ rs, r.1.length ≤ 1000) : TZ k (recsD rs) := ⟨rs.map recD, rfl, by rw [List.length_map]; exact h, fun d hd => by
  obtain ⟨r, h1, rfl⟩ := List.mem_map.mp hd
  exact rec_z (hr r h1)⟩
theorem log_small {n : Nat} (h : n ≤ 1000) : (n : Int).natAbs.log2 < 1920 := by
  rw [Int.natAbs_natCast]
  have : n.log2 ≤ n := Nat.log2_le_self n
  omega
end Un
namespace Un
open PySem L2 PySem.Spec PyProof.Rows
/-- _law_odd_recipe: 0 _law_hand_here, 1 _law_parts, 2 _law_recipe, 3 _law_many, 4 _law_there, 5 _law_lot, 6 _law_thing, 7 _law_one, 8 _law_odd, 9 _law_k -/
def t__law_odd_recipe (K : PySem.W.Frag) : TS :=
  (tSeq (tPar 3 4 (tCons (tOp rIxF (tVar 1) (tC (.int 0))) (tCons (tOp rIxF (tVar 1) (tC (.int 1))) tNil)))
    (tSeq (tAsg (tVar 2) (gTup K 2 (gCons (gName 5) (gCons (gName 6) gNil))))
    (tSeq (tAsg (tCall sp__law_draw [] E0 (tCons (tVar 0) (tCons (tVar 3) tNil))) (gName 7))
    (tSeq (tAsg (tLst (tCons (tTup (tCons (tVar 5) (tCons (tVar 7) tNil))) (tCons (tTup (tCons (tVar 5) (tCons (tOp rIxF (tVar 4) (tUn rNeg (tC (.int 1)))) tNil))) (tCons (tTup (tCons (tVar 5) (tCons (tVar 3) tNil))) (tCons (tTup (tCons (tVar 5) (tCons (tUn rNeg (tC (.int 1))) tNil))) (tCons (tTup (tCons (tVar 5) (tCons (tC .non) tNil))) (tCons (tTup (tCons (tVar 5) (tCons (tC (.bl true)) tNil))) (tCons (tTup (tCons (tVar 5) (tCons (tCB rStrI (tCons (tVar 6) tNil)) tNil))) (tCons (tTup (tCons (tVar 5) tNil)) tNil))))))))) (gName 8))
    (tSeq (tAsg (tOp rCat (tVar 8) (tLst (tCons (tTup (tCons (tTup tNil) (tCons (tVar 6) tNil))) (tCons (tTup (tCons (tTup (tCons (tVar 7) tNil)) (tCons (tVar 6) tNil))) (tCons (tTup (tCons (tCB rLstF (tCons (tVar 5) tNil)) (tCons (tVar 6) tNil))) (tCons (tTup (tCons (tOp rCatP (tVar 5) (tTup (tCons (tVar 3) tNil))) (tCons (tVar 6) tNil))) (tCons (tTup (tCons (tOp rCatP (tTup (tCons (tUn rNeg (tC (.int 1))) tNil)) (tVar 5)) (tCons (tVar 6) tNil))) tNil))))))) (gName 8))
    (tSeq (tAsg (tOp rCat (tVar 8) (tLst (tCons (tTup (tCons (tCB rTupF (tCons (tCB rSortedLP (tCons (tOp rCat (tLc (iTup K (tVar 5)) (gName 9) (tTest (tOp rNe (tVar 9) (tVar 6))) (tVar 9) [9]) (tLst (tCons (tVar 6) tNil))) tNil)) tNil)) (tCons (tVar 6) tNil))) (tCons (tTup (tCons (tOp rCatP (tSl rSlTP (tVar 5) tNoPart (tPart (tC (.int 1)))) (tVar 5)) (tCons (tVar 6) tNil))) tNil)))) (gName 8))
    (tSeq (tAsg (tOp rCat (tVar 8) (tLst (tCons (tTup (tCons (tRevT (tVar 5)) (tCons (tVar 6) tNil))) (tCons (tTup (tCons (tTup (tCons (tC (.bl true)) tNil)) (tCons (tVar 6) tNil))) (tCons (tTup (tCons (tVar 5) (tCons (tVar 6) (tCons (tVar 6) tNil)))) (tCons (tLst (tCons (tVar 5) (tCons (tVar 6) tNil))) (tCons (tVar 5) (tCons (tC .non) (tCons (tTup (tCons (tVar 6) (tCons (tVar 5) tNil))) tNil))))))))) (gName 8))
    (tRet (tOp rIxF (tVar 8) (tCall sp__law_draw [] E0 (tCons (tVar 0) (tCons (tCB rLenF (tCons (tVar 8) tNil)) tNil))))))))))))
/-- _law_odd_recipes: 0 _law_hand_here, 1 _law_parts, 2 _law_recipes, 3 _law_at, 4 _law_way -/
def t__law_odd_recipes : TS :=
  (tSeq (tAsg (tOp rIxF (tVar 1) (tC (.int 2))) (gName 2))
    (tSeq (tAsg (tCall sp__law_draw [] E0 (tCons (tVar 0) (tCons (tCB rLenF (tCons (tVar 2) tNil)) tNil))) (gName 3))
    (tSeq (tAsg (tCall sp__law_draw [] E0 (tCons (tVar 0) (tCons (tC (.int 8)) tNil))) (gName 4))
    (tSeq (tIfS (tTest (tOp rLtI (tVar 4) (tC (.int 4)))) (tRet (tOp rCatP (tOp rCatP (tSl rSlTP (tVar 2) tNoPart (tPart (tVar 3))) (tTup (tCons (tCall sp__law_odd_recipe [] E0 (tCons (tVar 0) (tCons (tVar 1) (tCons (tOp rIxF (tVar 2) (tVar 3)) tNil)))) tNil))) (tSl rSlTP (tVar 2) (tPart (tOp rAddI (tVar 3) (tC (.int 1)))) tNoPart))) tNext)
    (tSeq (tIfS (tTest (tOp rEq (tVar 4) (tC (.int 4)))) (tRet (tOp rCatP (tSl rSlTP (tVar 2) tNoPart (tPart (tVar 3))) (tSl rSlTP (tVar 2) (tPart (tOp rAddI (tVar 3) (tC (.int 1)))) tNoPart))) tNext)
    (tSeq (tIfS (tTest (tOp rEq (tVar 4) (tC (.int 5)))) (tRet (tOp rCatP (tVar 2) (tOp rRepP (tSl rSlTP (tVar 2) (tPart (tVar 3)) (tPart (tOp rAddI (tVar 3) (tC (.int 1))))) (tOp rSubI (tOp rAddI (tC (.int 40)) (tCall sp__law_draw [] E0 (tCons (tVar 0) (tCons (tC (.int 2)) tNil)))) (tCB rLenF (tCons (tVar 2) tNil)))))) tNext)
    (tRet (tOp rIxF (tLst (tCons (tCB rLstF (tCons (tVar 2) tNil)) (tCons (tC .non) (tCons (tOp rIxF (tVar 2) (tVar 3)) (tCons (tTup tNil) (tCons tDNewK tNil)))))) (tCall sp__law_draw [] E0 (tCons (tVar 0) (tCons (tC (.int 5)) tNil)))))))))))
/-- _law_odd_part: 0 _law_hand_here, 1 _law_parts, 2 _law_kind, 3 _law_many, 4 _law_there, 5 _law_recipes, 6 _law_goals, 7 _law_one, 8 _law_odd, 9 _law_k -/
def t__law_odd_part (K : PySem.W.Frag) : TS :=
  (tSeq (tAsg (tVar 1) (gTup K 4 (gCons (gName 3) (gCons (gName 4) (gCons (gName 5) (gCons (gName 6) gNil))))))
    (tSeq (tAsg (tCall sp__law_draw [] E0 (tCons (tVar 0) (tCons (tVar 3) tNil))) (gName 7))
    (tSeq (tIfS (tTest (tOp rEq (tVar 2) (tC (.int 0)))) (tSeq (tAsg (tLst (tCons (tC (.int 1)) (tCons (tC (.int 0)) (tCons (tUn rNeg (tC (.int 1))) (tCons (tC (.int 41)) (tCons (tC (.int 40)) (tCons (tC (.int 2)) (tCons (tOp rAddI (tVar 3) (tC (.int 1))) (tCons (tOp rSubI (tVar 3) (tC (.int 1))) (tCons (tC (.bl true)) (tCons (tC .non) (tCons (tCB rStrI (tCons (tVar 3) tNil)) (tCons (tTup (tCons (tVar 3) tNil)) (tCons (tOp rPowI (tC (.int 10)) (tC (.int 30))) (tCons (tLst tNil) tNil))))))))))))))) (gName 8))
    (tRet (tOp rIxF (tVar 8) (tCall sp__law_draw [] E0 (tCons (tVar 0) (tCons (tCB rLenF (tCons (tVar 8) tNil)) tNil)))))) tNext)
    (tSeq (tIfS (tTest (tOp rEq (tVar 2) (tC (.int 1)))) (tSeq (tAsg (tLst (tCons (tTup tNil) (tCons (tTup (tCons (tVar 7) tNil)) (tCons (tSl rSlTP (tVar 4) tNoPart (tPart (tC (.int 1)))) (tCons (tOp rCatP (tVar 4) (tVar 4)) (tCons (tRevT (tVar 4)) (tCons (tCB rLstF (tCons (tVar 4) tNil)) (tCons (tC .non) (tCons (tTup (tCons (tVar 3) tNil)) (tCons (tTup (tCons (tUn rNeg (tC (.int 1))) tNil)) (tCons (tTup (tCons (tC (.bl true)) tNil)) (tCons (tOp rIxF (tVar 4) (tC (.int 0))) tNil)))))))))))) (gName 8))
    (tSeq (tAsg (tOp rCat (tVar 8) (tLst (tCons (tTupRg (tRg1 (tVar 3))) (tCons (tVar 6) (tCons (tCB rTupF (tCons (tCB rSortedLP (tCons (tOp rCat (tLc (iTup K (tVar 4)) (gName 9) (tTest (tOp rNe (tVar 9) (tVar 7))) (tVar 9) [9]) (tLst (tCons (tVar 7) tNil))) tNil)) tNil)) (tCons (tTup (tCons (tCB rStrI (tCons (tVar 7) tNil)) tNil)) tNil)))))) (gName 8))
    (tRet (tOp rIxF (tVar 8) (tCall sp__law_draw [] E0 (tCons (tVar 0) (tCons (tCB rLenF (tCons (tVar 8) tNil)) tNil))))))) tNext)
    (tSeq (tIfS (tTest (tOp rEq (tVar 2) (tC (.int 2)))) (tRet (tCall sp__law_odd_recipes [] E0 (tCons (tVar 0) (tCons (tVar 1) tNil)))) tNext)
    (tSeq (tAsg (tLst (tCons (tTup tNil) (tCons (tTup (tCons (tVar 7) tNil)) (tCons (tVar 4) (tCons (tSl rSlTP (tVar 6) tNoPart (tPart (tC (.int 1)))) (tCons (tOp rCatP (tVar 6) (tVar 6)) (tCons (tRevT (tVar 6)) (tCons (tCB rLstF (tCons (tVar 6) tNil)) (tCons (tC .non) (tCons (tTup (tCons (tVar 3) tNil)) (tCons (tTup (tCons (tUn rNeg (tC (.int 1))) tNil)) (tCons (tTup (tCons (tC (.bl true)) tNil)) tNil)))))))))))) (gName 8))
    (tSeq (tAsg (tOp rCat (tVar 8) (tLst (tCons (tCB rTupF (tCons (tLc (iRng1 (tCons (tVar 3) tNil)) (gName 9) (tTest (tOp (rInF true) (tVar 9) (tVar 4))) (tVar 9) [9]) tNil)) (tCons (tOp rIxF (tVar 6) (tC (.int 0))) (tCons (tTup (tCons (tCB rStrI (tCons (tVar 7) tNil)) tNil)) tNil))))) (gName 8))
    (tSeq (tDrop (tBM K "list" rAppend (tVar 8) (tCons (tCB rTupF (tCons (tCB rSortedLP (tCons (tOp rCat (tLc (iTup K (tVar 6)) (gName 9) (tTest (tOp rNe (tVar 9) (tVar 7))) (tVar 9) [9]) (tLst (tCons (tVar 7) tNil))) tNil)) tNil)) tNil)))
    (tRet (tOp rIxF (tVar 8) (tCall sp__law_draw [] E0 (tCons (tVar 0) (tCons (tCB rLenF (tCons (tVar 8) tNil)) tNil)))))))))))))
/-- _law_spoiled: 0 _law_hand_here, 1 _law_parts, 2 _law_odd, 3 _law_turn, 4 _law_kind -/
def t__law_spoiled : TS :=
  (tSeq (tAsg (tCB rLstF (tCons (tVar 1) tNil)) (gName 2))
    (tSeq (tFor (iRng1 (tCons (tOp rAddI (tC (.int 1)) (tCall sp__law_draw [] E0 (tCons (tVar 0) (tCons (tC (.int 2)) tNil)))) tNil)) (gName 3)
    (tSeq (tAsg (tCall sp__law_draw [] E0 (tCons (tVar 0) (tCons (tC (.int 4)) tNil))) (gName 4))
    (tAsg (tCall sp__law_odd_part [] E0 (tCons (tVar 0) (tCons (tVar 1) (tCons (tVar 4) tNil)))) (gSub (tVar 2) (tVar 4) rSetL))))
    (tRet (tVar 2))))
end Un
namespace Un
open PySem L2 PySem.Spec PyProof.Rows
local macro_rules | `(tactic| tm_at "s") => `(tactic| with_reducible first
  | refine s_seq ?_ | (refine s_asg ?_; dsimp only [List.set]) | refine s_asgG ?_ | refine g_sub ?_ | refine s_sl ?_ | refine s_noPart ?_ | refine s_part ?_ | refine s_bm ?_ | refine s_lstRg ?_ | refine s_tupRg ?_ | refine s_rg1 ?_ | refine s_rg2 ?_  | refine s_isB ?_ | refine s_notB ?_ | refine s_next ?_ | refine s_ret ?_ | refine s_drop ?_ | refine s_ifs ?_ | refine s_brk ?_ | refine s_cont ?_ | refine s_retN ?_
  | refine s_var rfl ?_ | refine s_c ?_ | refine s_op ?_ | refine s_cons ?_ | refine s_nil ?_ | refine s_call ?_ | refine s_CB ?_ | refine s_un ?_
  | refine s_test ?_ | refine s_tB ?_ | refine s_k ?_ | refine s_not ?_ | refine s_and ?_ | refine s_or ?_ | refine s_notV ?_ | refine s_andV ?_ | refine s_orV ?_ | refine s_if ?_
  | refine s_add ?_ | refine s_sub ?_ | refine s_lt ?_ | refine s_le ?_ | refine s_gt ?_ | refine s_ge ?_ | refine s_eqI ?_ | refine s_neI ?_ | refine s_band ?_ | refine s_bor ?_ | refine s_neg ?_ | refine s_inv ?_
  | refine s_isN ?_ | refine s_notN ?_ | refine s_int1 ?_ | refine s_abs ?_ | refine s_min2 ?_ | refine s_max2 ?_
  | refine s_tup ?_ | refine s_lst ?_ | refine s_chain ?_ | refine s_truI ?_ | refine s_ki ?_ | refine s_sfld ?_ | refine s_fld ?_ | refine g_cons ?_ | refine g_nil ?_ | (refine g_name ?_; dsimp only [List.set]) | refine s_isD (by decide) (by assumption) ?_)
local macro_rules | `(tactic| tm_at "go") => `(tactic| repeat' (tm_at "s"))
variable {K : PySem.W.Frag}
abbrev oS (a p : Addr) (w : V) (m : Nat) (g c : Addr) (t d : Nat) (z : Option V) : L2.St := [some (.ref a), some (.ref p), some w, some (.int (m : Int)), some (.ref g), some (.ref c), some (.int (t : Int)), some (.int (d : Int)), z, none]
theorem atI_m1 {v : V} {vs : List V} : ∃ x, atI (v :: vs) (-1) = some x ∧ x ∈ v :: vs := by
  have hl : (v :: vs).length = vs.length + 1 := List.length_cons
  have e : ixN (v :: vs).length (-1) = some vs.length := by
    unfold ixN
    rw [if_neg (by decide), if_pos (by omega)]
    congr 1
    omega
  unfold atI
  rw [e]
  have h : vs.length < (v :: vs).length := by omega
  exact ⟨_, List.getElem?_eq_getElem h, List.getElem_mem h⟩
theorem pure__law_odd_recipe (vs : List V) (H : Hp) (Q : VK) (E : XK) (h : sp__law_odd_recipe vs H Q E) : t__law_odd_recipe K { nx := fun _ H' => Q .non H', rt := Q } (start ["_law_hand_here", "_law_parts", "_law_recipe", "_law_many", "_law_there", "_law_lot", "_law_thing", "_law_one", "_law_odd", "_law_k"] vs) H := by
  obtain ⟨a, p, w, m, gv, rs, gl, r, G, rfl, hh, hp, hw, kit, hr, k⟩ := h
  obtain ⟨g, ra, ga, hp0, hg, _, _⟩ := parts_at hp
  obtain ⟨wa, ys, rfl, hwa, hy⟩ := rp_tup.mp hw
  obtain ⟨_, _, rfl, h0, hy⟩ := rpAll_cons.mp hy
  obtain ⟨_, _, rfl, h1, hy⟩ := rpAll_cons.mp hy
  obtain rfl := rpAll_nil.mp hy
  obtain ⟨c, rfl, hc⟩ := rp_lot.mp h0
  obtain rfl := rp_int.mp h1
  obtain ⟨rn, rl, rt, _, _⟩ := kit.rsOk r hr
  have m40 := kit.m40
  have m3 := kit.m3
  have hlen := lot_small rl m40
  show t__law_odd_recipe K _ [some (.ref a), some (.ref p), some (.ref wa), none, none, none, none, none, none, none] H
  unfold t__law_odd_recipe
  refine s_seq (s_par ?_)
  tm_at "go"
  refine s_ixT (hh.same _ _ hp0) (v := .int (m : Int)) rfl ?_
  tm_at "go"
  refine s_ixT (hh.same _ _ hp0) (v := .ref g) rfl ?_
  tm_at "go"
  refine ⟨_, _, rfl, ?_⟩
  dsimp only [List.set]
  tm_at "go"
  refine g_tup (hh.same _ _ hwa) rfl ?_
  tm_at "go"
  refine ⟨a, _, G, rfl, hh, by omega, by omega, fun d H1 hd s1 => ?_⟩
  have b0 : G = G := rfl
  have V3 : ∀ (z : Option V) {G'}, Same G G' → EvP a G' (oS a p (.ref wa) m g c r.2 d z) (tVar 3) (IsI (m : Int)) := fun z G' e => ev_var (d := .int (m : Int)) rfl Rp.int rfl
  have V6 : ∀ (z : Option V) {G'}, Same G G' → EvP a G' (oS a p (.ref wa) m g c r.2 d z) (tVar 6) (IsI (r.2 : Int)) := fun z G' e => ev_var (d := .int (r.2 : Int)) rfl Rp.int rfl
  have V7 : ∀ (z : Option V) {G'}, Same G G' → EvP a G' (oS a p (.ref wa) m g c r.2 d z) (tVar 7) ZD := fun z G' e => ev_var (d := .int (d : Int)) rfl Rp.int rfl
  have V5 : ∀ (z : Option V) {G'}, Same G G' → EvP a G' (oS a p (.ref wa) m g c r.2 d z) (tVar 5) (TZ 40) := fun z G' e => ev_var (d := lotD r.1) rfl ((rp_lot.mpr ⟨c, rfl, hc⟩ : Rp G (lotD r.1) (.ref c)).up e) (lot_tz hlen)
  have V5z : ∀ (z : Option V) {G'}, Same G G' → EvP a G' (oS a p (.ref wa) m g c r.2 d z) (tVar 5) ZD := fun z G' e => ev_tupZ (V5 z e) (by decide)
  have V6z : ∀ (z : Option V) {G'}, Same G G' → EvP a G' (oS a p (.ref wa) m g c r.2 d z) (tVar 6) ZD := fun z G' e => ev_intZ (V6 z e)
  have V3z : ∀ (z : Option V) {G'}, Same G G' → EvP a G' (oS a p (.ref wa) m g c r.2 d z) (tVar 3) ZD := fun z G' e => ev_intZ (V3 z e)
  obtain ⟨x0, xr, hgv⟩ : ∃ x0 xr, gv = x0 :: xr := by
    cases e : gv with
    | nil => exact absurd e kit.gv0
    | cons x l => exact ⟨x, l, rfl⟩
  have Vix : EvP a G (oS a p (.ref wa) m g c r.2 d none) (tOp rIxF (tVar 4) (tUn rNeg (tC (.int 1)))) ZD := by
    subst hgv
    obtain ⟨x, hx1, hx2⟩ := atI_m1 (v := V.int (x0 : Int)) (vs := vN xr)
    intro G' H' Q' hh' e' q
    refine s_op (s_var rfl (s_un (s_c (s_neg ?_))))
    refine s_ixT (hh'.same _ _ (e' _ _ hg)) hx1 ?_
    have : x ∈ vN (x0 :: xr) := hx2
    obtain ⟨n, _, rfl⟩ := List.mem_map.mp this
    exact q _ (.int (n : Int)) _ _ rfl Rp.int (.refl hh')
  have e0 : Same G G := .refl _
  refine s_seq (s_asg ?_)
  refine ev_lst (n := 8) (evs_cons (ev_t2 (V5z none e0) (V7 none e0)) (evs_cons (ev_t2 (V5z none e0) Vix) (evs_cons (ev_t2 (V5z none e0) (V3z none e0)) (evs_cons (ev_t2 (V5z none e0) ev_m1) (evs_cons (ev_t2 (V5z none e0) ev_non) (evs_cons (ev_t2 (V5z none e0) ev_bl)
    (evs_cons (ev_t2 (V5z none e0) (ev_str (V6 none e0) (log_small (by omega)))) (evs_cons (ev_t1 (V5z none e0)) evs_nil)))))))) (by decide) G H1 _ s1.hand e0 fun v1 d1 G2 H2 z1 r1 s2 => ?_
  dsimp only [List.set]
  refine s_seq (s_asg ?_)
  have e2 := s2.gg
  have L1 : EvP a G2 (oS a p (.ref wa) m g c r.2 d (some v1)) (tVar 8) (LZ 8) := ev_var rfl r1 z1
  refine ev_catL L1 (ev_lst (n := 5) (evs_cons (ev_t2 ev_t0 (V6z _ e2)) (evs_cons (ev_t2 (ev_t1 (V7 _ e2)) (V6z _ e2)) (evs_cons (ev_t2 (ev_list (V5 _ e2) (by decide)) (V6z _ e2)) (evs_cons (ev_t2 (ev_tupZ (ev_catT (V5 _ e2) (ev_one1 (V3z _ e2)) (by decide)) (by decide)) (V6z _ e2))
    (evs_cons (ev_t2 (ev_tupZ (ev_catT (ev_one1 ev_m1) (V5 _ e2) (by decide)) (by decide)) (V6z _ e2)) evs_nil))))) (by decide)) (by decide) G2 H2 _ s2.hand (.refl _) fun v2 d2 G3 H3 z2 r2 s3 => ?_
  dsimp only [List.set]
  refine s_seq (s_asg ?_)
  have e3 := e2.trans s3.gg
  have L2 : EvP a G3 (oS a p (.ref wa) m g c r.2 d (some v2)) (tVar 8) (LZ 13) := ev_var rfl r2 z2
  have but' : EvP a G3 (oS a p (.ref wa) m g c r.2 d (some v2)) (tLc (iTup K (tVar 5)) (gName 9) (tTest (tOp rNe (tVar 9) (tVar 6))) (tVar 9) [9]) (NL 40) := ev_but (ns := r.1) rfl (e3 _ _ hc) rfl (by decide) (by show 9 < 10; decide) hlen (by decide) rfl
  refine ev_catL L2 (ev_lst (n := 2) (evs_cons (ev_t2 (ev_tupZ (ev_tsort (ev_catN but' (ev_nlit (ks := [r.2]) (evs_one (V6 _ e3)) (by show 1 ≤ 1000; decide)) (by show 40 + 1 ≤ 1000; decide)) (by show 40 + 1 ≤ 1000; decide)) (by show 40 + 1 ≤ 1000; decide)) (V6z _ e3))
    (evs_cons (ev_t2 (ev_tupZ (ev_catT (ev_slT (lo := none) (hi := some 1) (V5 _ e3) (fun _ _ q => q) (fun _ _ q => ⟨1, rfl, q⟩)) (V5 _ e3) (by decide)) (by decide)) (V6z _ e3)) evs_nil)) (by decide)) (by decide) G3 H3 _ s3.hand (.refl _) fun v3 d3 G4 H4 z3 r3 s4 => ?_
  dsimp only [List.set]
  refine s_seq (s_asg ?_)
  have e4 := e3.trans s4.gg
  have L3 : EvP a G4 (oS a p (.ref wa) m g c r.2 d (some v3)) (tVar 8) (LZ 15) := ev_var rfl r3 z3
  refine ev_catL L3 (ev_lst (n := 7) (evs_cons (ev_t2 (ev_tupZ (ev_rev (V5 _ e4)) (by decide)) (V6z _ e4)) (evs_cons (ev_t2 (ev_t1 ev_bl) (V6z _ e4)) (evs_cons (ev_t3 (V5z _ e4) (V6z _ e4) (V6z _ e4)) (evs_cons (ev_l2 (V5z _ e4) (V6z _ e4)) (evs_cons (V5z _ e4) (evs_cons ev_non (evs_cons (ev_t2 (V6z _ e4) (V5z _ e4)) evs_nil))))))) (by decide)) (by decide) G4 H4 _ s4.hand (.refl _) fun v4 d4 G5 H5 z4 r4 s5 => ?_
  dsimp only [List.set]
  refine s_ret ?_
  refine ev_pick (σ := oS a p (.ref wa) m g c r.2 d (some v4)) rfl r4 z4 (by decide) (by decide) rfl G5 H5 _ s5.hand (.refl _) fun v d' G6 H6 hz hR s6 => ?_
  exact k d' v G6 H6 hz hR ((((((Stp.refl hh).call s1).call s2).call s3).call s4).call s5 |>.call s6)
end Un
namespace Un
open PySem L2 PySem.Spec PyProof.Rows
local macro_rules | `(tactic| tm_at "s") => `(tactic| with_reducible first
  | refine s_seq ?_ | (refine s_asg ?_; dsimp only [List.set]) | refine s_asgG ?_ | refine g_sub ?_ | refine s_sl ?_ | refine s_noPart ?_ | refine s_part ?_ | refine s_bm ?_ | refine s_lstRg ?_ | refine s_tupRg ?_ | refine s_rg1 ?_ | refine s_rg2 ?_  | refine s_isB ?_ | refine s_notB ?_ | refine s_next ?_ | refine s_ret ?_ | refine s_drop ?_ | refine s_ifs ?_ | refine s_brk ?_ | refine s_cont ?_ | refine s_retN ?_
  | refine s_var rfl ?_ | refine s_c ?_ | refine s_op ?_ | refine s_cons ?_ | refine s_nil ?_ | refine s_call ?_ | refine s_CB ?_ | refine s_un ?_
  | refine s_test ?_ | refine s_tB ?_ | refine s_k ?_ | refine s_not ?_ | refine s_and ?_ | refine s_or ?_ | refine s_notV ?_ | refine s_andV ?_ | refine s_orV ?_ | refine s_if ?_
  | refine s_add ?_ | refine s_sub ?_ | refine s_lt ?_ | refine s_le ?_ | refine s_gt ?_ | refine s_ge ?_ | refine s_eqI ?_ | refine s_neI ?_ | refine s_band ?_ | refine s_bor ?_ | refine s_neg ?_ | refine s_inv ?_
  | refine s_isN ?_ | refine s_notN ?_ | refine s_int1 ?_ | refine s_abs ?_ | refine s_min2 ?_ | refine s_max2 ?_
  | refine s_tup ?_ | refine s_lst ?_ | refine s_chain ?_ | refine s_truI ?_ | refine s_ki ?_ | refine s_sfld ?_ | refine s_fld ?_ | refine g_cons ?_ | refine g_nil ?_ | (refine g_name ?_; dsimp only [List.set]) | refine s_isD (by decide) (by assumption) ?_)
local macro_rules | `(tactic| tm_at "go") => `(tactic| repeat' (tm_at "s"))
variable {K : PySem.W.Frag}
section
variable {a : Addr} {G0 : Hp} {σ : L2.St} {te tb : TE} {n k : Nat}
/-- a tuple with items, of at most n such -/
def NT (n : Nat) (d : PyData) : Prop := ∃ ds, d = .tuple ds ∧ ds ≠ [] ∧ ds.length ≤ n ∧ ∀ d ∈ ds, szD d = true
theorem RpAll.rep {H : Hp} {ds : List PyData} {xs : List V} (h : RpAll H ds xs) : ∀ m : Nat, RpAll H (List.replicate m ds).flatten (List.replicate m xs).flatten
  | 0 => .nil
  | m + 1 => by
    rw [List.replicate_succ, List.replicate_succ, List.flatten_cons, List.flatten_cons]
    exact h.append (h.rep m)
theorem rep_len {α : Type} (l : List α) : ∀ m : Nat, (List.replicate m l).flatten.length = m * l.length
  | 0 => by simp
  | m + 1 => by
    rw [List.replicate_succ, List.flatten_cons, List.length_append, rep_len l m, Nat.succ_mul]
    omega
theorem ev_rep (h : EvP a G0 σ te (NT 1)) (h' : EvP a G0 σ tb (fun d => ∃ i : Int, d = .int i ∧ 0 ≤ i ∧ i ≤ 41)) : EvP a G0 σ (tOp rRepP te tb) (TZ 41) := fun G H Q hh g q => h G H _ hh g fun v d G' H' hz hr s => by
  refine h' G' H' _ s.hand (g.trans s.gg) fun w e G2 H2 hz2 hr2 s2 => ?_
  obtain ⟨ds, rfl, n0, l1, z1⟩ := hz
  obtain ⟨i, rfl, i0, i1⟩ := hz2
  rw [rp_int.mp hr2]
  have hr' := hr.up s2.gg
  obtain ⟨b, xs, rfl, hb, hx⟩ := rp_tup.mp hr'
  have hxl := hx.length
  have st := s.call s2
  refine ⟨b, i, xs, rfl, rfl, s2.gh _ _ hb, fun e => ?_, by omega, by omega, by omega, fun e => ?_, fun _ p hp => ?_⟩
  · rw [e] at hxl
    exact n0 (List.eq_nil_of_length_eq_zero hxl.symm)
  · exact q _ _ _ _ ⟨ds, rfl, by omega, z1⟩ hr' st
  · refine q _ (.tuple (List.replicate i.toNat ds).flatten) _ _ ⟨_, rfl, ?_, fun d hd => ?_⟩ (Rp.tup upd_same ((hx.rep i.toNat).up (L2.Same.new (gfree s2.gh hp)))) (st.lay hp)
    · rw [rep_len]
      have : ds.length = 1 := by
        have := List.length_pos_iff.mpr n0
        omega
      rw [this]
      omega
    · obtain ⟨l, h1, h2⟩ := List.mem_flatten.mp hd
      rw [List.eq_of_mem_replicate h1] at h2
      exact z1 d h2
/-- xs[draw(m)], a list of m such -/
theorem ev_pickL {m : Nat} (h : EvP a G0 σ te (LZ m)) (hm : 0 < m) (hm2 : m ≤ 1000) (ha : σ[0]? = some (some (.ref a))) : EvP a G0 σ (tOp rIxF te (tCall sp__law_draw [] E0 (tCons (tVar 0) (tCons (tC (.int (m : Int))) tNil)))) ZD := fun G H Q hh g q => h G H _ hh g fun v d G' H' hz hr s => by
  obtain ⟨ds, rfl, l1, z1⟩ := hz
  obtain ⟨b, xs, rfl, hb, hx⟩ := rp_list.mp hr
  have hxl := hx.length
  refine s_call (s_cons (s_var ha (s_cons (s_c (s_nil ?_)))))
  refine ⟨a, _, G', rfl, s.hand, by omega, by omega, fun k H2 hk s2 => ?_⟩
  have hkl : k < xs.length := by omega
  obtain ⟨e, h1, h2⟩ := hx.get (List.getElem?_eq_getElem hkl)
  exact s_ixL (s2.gh _ _ hb) (by rw [atI_nat, List.getElem?_eq_getElem hkl]) (q _ e G' H2 (z1 e (List.mem_of_getElem? h1)) h2 (s.call s2))
end
abbrev oR (a p ra : Addr) (i w : Nat) : L2.St := [some (.ref a), some (.ref p), some (.ref ra), some (.int (i : Int)), some (.int (w : Int))]
theorem pure__law_odd_recipes (vs : List V) (H : Hp) (Q : VK) (E : XK) (h : sp__law_odd_recipes vs H Q E) : t__law_odd_recipes { nx := fun _ H' => Q .non H', rt := Q } (start ["_law_hand_here", "_law_parts", "_law_recipes", "_law_at", "_law_way"] vs) H := by
  obtain ⟨a, p, m, gv, rs, gl, G, rfl, hh, hp, kit, k⟩ := h
  obtain ⟨g, ra, ga, hp0, hg, hra, _⟩ := parts_at hp
  have m40 := kit.m40
  have hr1 : ∀ r ∈ rs, r.1.length ≤ 1000 := fun r hr => by
    have := lot_small (kit.rsOk r hr).2.1 m40
    omega
  have rtz : TZ 40 (recsD rs) := recs_tz kit.rsl hr1
  obtain ⟨_, xs, e, hxa, hxl, hxr⟩ := rp_recs hra
  cases e
  have hpos : 0 < rs.length := List.length_pos_iff.mpr kit.rs0
  have rsl := kit.rsl
  show t__law_odd_recipes _ [some (.ref a), some (.ref p), none, none, none] H
  unfold t__law_odd_recipes
  tm_at "go"
  refine s_ixT (hh.same _ _ hp0) (v := .ref ra) rfl ?_
  tm_at "go"
  refine s_lenT (hh.same _ _ hxa) ?_
  tm_at "go"
  rw [hxl]
  refine ⟨a, _, G, rfl, hh, by omega, by omega, fun i H1 hi s1 => ?_⟩
  tm_at "go"
  refine ⟨a, _, G, rfl, s1.hand, by decide, by decide, fun w H2 hw s2 => ?_⟩
  have s02 := (Stp.refl hh).call s1 |>.call s2
  have fin : ∀ v d G' H', szD d = true → Rp G' d v → Stp a G H2 G' H' → Q v H' := fun v d G' H' hz hR s => k d v G' H' hz hR (s02.call s)
  have hix : i < rs.length := by omega
  have e0 : Same G G := .refl _
  have V2 : EvP a G (oR a p ra i w) (tVar 2) (TZ 40) := ev_var rfl hra rtz
  have pre : EvP a G (oR a p ra i w) (tSl rSlTP (tVar 2) tNoPart (tPart (tVar 3))) (TZ 40) := ev_slT (lo := none) (hi := some (i : Int)) V2 (fun _ _ q => q) fun _ _ q => ⟨_, rfl, _, rfl, q⟩
  have suf : EvP a G (oR a p ra i w) (tSl rSlTP (tVar 2) (tPart (tOp rAddI (tVar 3) (tC (.int 1)))) tNoPart) (TZ 40) := ev_slT (lo := some ((i : Int) + 1)) (hi := none) V2 (fun _ _ q => ⟨_, rfl, _, _, rfl, rfl, _, rfl, q⟩) fun _ _ q => q
  obtain ⟨ri, bi, hri, hxi, ci, hbi, hci⟩ := hxr i (xs[i]'(by omega)) (List.getElem?_eq_getElem (by omega))
  have hxi' : atI xs (i : Int) = some (.ref bi) := by rw [atI_nat, List.getElem?_eq_getElem (by omega), hxi]
  have hrec : Rp G (recD ri) (.ref bi) := Rp.tup hbi (.cons (rp_lot.mpr ⟨ci, rfl, hci⟩) (.cons Rp.int .nil))
  tm_at "go"
  refine s_ited (fun h1 => ?_) fun h1 => ?_
  · refine s_ret ?_
    have call : EvP a G (oR a p ra i w) (tCall sp__law_odd_recipe [] E0 (tCons (tVar 0) (tCons (tVar 1) (tCons (tOp rIxF (tVar 2) (tVar 3)) tNil)))) ZD := fun G' H' Q' hh' g' q => by
      refine s_call (s_cons (s_var rfl (s_cons (s_var rfl (s_cons (s_op (s_var rfl (s_var rfl (s_ixT (hh'.same _ _ (g' _ _ hxa)) hxi' (s_nil ?_))))))))))
      exact ⟨a, p, .ref bi, m, gv, rs, gl, ri, G', rfl, hh', hp.up g', hrec.up g', kit, List.mem_of_getElem? hri, fun d v G2 H3 hz hR s => q v d G2 H3 hz hR s⟩
    exact ev_tupZ (ev_catT (ev_catT pre (ev_one1 call) (by decide)) suf (by decide)) (by decide) G H2 _ s2.hand e0 fin
  tm_at "go"
  refine s_ited (fun h2 => ?_) fun h2 => ?_
  · refine s_ret ?_
    exact ev_tupZ (ev_catT pre suf (by decide)) (by decide) G H2 _ s2.hand e0 fin
  tm_at "go"
  refine s_ited (fun h3 => ?_) fun h3 => ?_
  · refine s_ret ?_
    have mid : EvP a G (oR a p ra i w) (tSl rSlTP (tVar 2) (tPart (tVar 3)) (tPart (tOp rAddI (tVar 3) (tC (.int 1))))) (NT 1) := fun G' H' Q' hh' g' q => by
      refine s_sl (s_var rfl (s_part (s_var rfl (s_ki (s_part (s_op (s_var rfl (s_c (s_add (s_ki ?_))))))))))
      have hx' : RpAll G' (rs.map recD) xs := by
        obtain ⟨_, ys, e, hy, hys⟩ := rp_tup.mp (hra.up g')
        cases e
        rw [g' _ _ hxa] at hy
        cases hy
        exact hys
      have e1 : (i : Int) + 1 = ((i + 1 : Nat) : Int) := by omega
      rw [e1]
      have hcut : cutV xs (some (i : Int)) (some ((i + 1 : Nat) : Int)) = (xs.drop i).take 1 := by
        rw [cut_mid xs i (i + 1) (by omega) (by omega)]
        congr 1
        omega
      have hes : RpAll G' (((rs.map recD).drop i).take 1) ((xs.drop i).take 1) := (hx'.drop i).take 1
      have hnt : NT 1 (.tuple (((rs.map recD).drop i).take 1)) := ⟨_, rfl, fun e => by
        have := congrArg List.length e
        rw [List.length_take, List.length_drop, List.length_map] at this
        simp only [List.length_nil] at this
        omega, by rw [List.length_take]; omega, fun d hd => by
        obtain ⟨r, h1, rfl⟩ := List.mem_map.mp (List.mem_of_mem_drop (List.mem_of_mem_take hd))
        exact rec_z (hr1 r h1)⟩
      refine s_slT (hh'.same _ _ (g' _ _ hxa)) (fun e => ?_) fun p' hp' => ?_
      · rw [hcut] at e
        refine q _ _ G' H' hnt (Rp.tup (g' _ _ hxa) ?_) (.refl hh')
        rw [e] at hes
        exact hes
      · rw [hcut]
        exact q _ _ _ _ hnt (Rp.tup upd_same (hes.up (L2.Same.new (gfree hh'.same hp')))) ((Stp.refl hh').lay hp')
    have cnt : EvP a G (oR a p ra i w) (tOp rSubI (tOp rAddI (tC (.int 40)) (tCall sp__law_draw [] E0 (tCons (tVar 0) (tCons (tC (.int 2)) tNil)))) (tCB rLenF (tCons (tVar 2) tNil))) (fun d => ∃ i : Int, d = .int i ∧ 0 ≤ i ∧ i ≤ 41) := fun G' H' Q' hh' g' q => by
      refine s_op (s_op (s_c (s_call (s_cons (s_var rfl (s_cons (s_c (s_nil ?_))))))))
      refine ⟨a, _, G', rfl, hh', by decide, by decide, fun d H3 hd s3 => ?_⟩
      refine s_add (s_CB (s_cons (s_var rfl (s_nil (s_lenT (s3.gh _ _ (g' _ _ hxa)) (s_sub ?_))))))
      rw [hxl]
      exact q _ (.int _) G' H3 ⟨_, rfl, by omega, by omega⟩ Rp.int s3
    exact ev_tupZ (ev_catT V2 (ev_rep mid cnt) (by decide)) (by decide) G H2 _ s2.hand e0 fin
  · refine s_next ?_
    dsimp only
    refine s_ret ?_
    have atr : EvP a G (oR a p ra i w) (tOp rIxF (tVar 2) (tVar 3)) ZD := fun G' H' Q' hh' g' q => by
      refine s_op (s_var rfl (s_var rfl (s_ixT (hh'.same _ _ (g' _ _ hxa)) hxi' ?_)))
      exact q _ _ G' H' (rec_z (hr1 ri (List.mem_of_getElem? hri))) (hrec.up g') (.refl hh')
    exact ev_pickL (m := 5) (ev_lst (n := 5) (evs_cons (ev_list V2 (by decide)) (evs_cons ev_non (evs_cons atr (evs_cons ev_t0 (evs_cons ev_dict evs_nil))))) (by decide)) (by decide) (by decide) rfl G H2 _ s2.hand e0 fin
end Un
namespace Un
open PySem L2 PySem.Spec PyProof.Rows
local macro_rules | `(tactic| tm_at "s") => `(tactic| with_reducible first
  | refine s_seq ?_ | (refine s_asg ?_; dsimp only [List.set]) | refine s_asgG ?_ | refine g_sub ?_ | refine s_sl ?_ | refine s_noPart ?_ | refine s_part ?_ | refine s_bm ?_ | refine s_lstRg ?_ | refine s_tupRg ?_ | refine s_rg1 ?_ | refine s_rg2 ?_  | refine s_isB ?_ | refine s_notB ?_ | refine s_next ?_ | refine s_ret ?_ | refine s_drop ?_ | refine s_ifs ?_ | refine s_brk ?_ | refine s_cont ?_ | refine s_retN ?_
  | refine s_var rfl ?_ | refine s_c ?_ | refine s_op ?_ | refine s_cons ?_ | refine s_nil ?_ | refine s_call ?_ | refine s_CB ?_ | refine s_un ?_
  | refine s_test ?_ | refine s_tB ?_ | refine s_k ?_ | refine s_not ?_ | refine s_and ?_ | refine s_or ?_ | refine s_notV ?_ | refine s_andV ?_ | refine s_orV ?_ | refine s_if ?_
  | refine s_add ?_ | refine s_sub ?_ | refine s_lt ?_ | refine s_le ?_ | refine s_gt ?_ | refine s_ge ?_ | refine s_eqI ?_ | refine s_neI ?_ | refine s_band ?_ | refine s_bor ?_ | refine s_neg ?_ | refine s_inv ?_
  | refine s_isN ?_ | refine s_notN ?_ | refine s_int1 ?_ | refine s_abs ?_ | refine s_min2 ?_ | refine s_max2 ?_
  | refine s_tup ?_ | refine s_lst ?_ | refine s_chain ?_ | refine s_truI ?_ | refine s_ki ?_ | refine s_sfld ?_ | refine s_fld ?_ | refine g_cons ?_ | refine g_nil ?_ | (refine g_name ?_; dsimp only [List.set]) | refine s_isD (by decide) (by assumption) ?_)
local macro_rules | `(tactic| tm_at "go") => `(tactic| repeat' (tm_at "s"))
variable {K : PySem.W.Frag}
section
variable {a : Addr} {G0 : Hp} {σ : L2.St} {te tb : TE} {n k : Nat}
/-- [k for k in range(m) if k not in t] -/
theorem ev_notin {m x t y : Nat} {ns : List Nat} {b : Addr} (hm : σ[x]? = some (some (.int (m : Int)))) (hb : G0 b = some (.tup (vN ns))) (ht : (wipe σ [y])[t]? = some (some (.ref b))) (hyt : y ≠ t) (hy : y < σ.length) (hm2 : m ≤ 1000) :
    EvP a G0 σ (tLc (iRng1 (tCons (tVar x) tNil)) (gName y) (tTest (tOp (rInF true) (tVar y) (tVar t))) (tVar y) [y]) (NL m) := fun G H Q hh g q => by
  refine s_lcNR (fun m => !decide (m ∈ ns)) id m (by omega) (fun _ q => s_cons (s_var hm (s_nil q))) (fun j hj H1 P N e1 h1 h2 => ?_) fun p H1 hp e1 hp1 => ?_
  · refine g_slot ⟨?_, ?_⟩
    · show ((σ.set y none).set y _).set y none = σ.set y none
      rw [List.set_set, List.set_set]
    have s1 : ((wipe σ [y]).set y (some (.int (j : Int))))[y]? = some (some (.int (j : Int))) := by
      rw [List.getElem?_set_self (by rw [wipe_length]; exact hy)]
    have s2 : ((wipe σ [y]).set y (some (.int (j : Int))))[t]? = some (some (.ref b)) := by
      rw [List.getElem?_set_ne hyt]
      exact ht
    refine s_test (s_op (s_var s1 (s_var s2 (s_inT (e1 _ _ (hh.same _ _ (g _ _ hb))) (s_k ?_)))))
    show if (!decide (j ∈ ns)) = true then _ else _
    by_cases e : j ∈ ns
    · rw [decide_eq_true e]
      refine iteF (h2 ?_ _ (.refl _))
      show (!decide (j ∈ ns)) = false
      rw [decide_eq_true e]
      rfl
    · rw [decide_eq_false e]
      refine iteT (s_var s1 (h1 ?_ _ (.refl _)))
      show (!decide (j ∈ ns)) = true
      rw [decide_eq_false e]
      rfl
  · rw [List.map_id] at hp1
    have s := (Stp.refl hh).more e1
    have s2 := s.hold hp (gfree hh.same hp) hp1 (hh.ne hp)
    refine q _ (.list (dN ((List.range m).filter fun j => !decide (j ∈ ns)))) _ _ ⟨_, rfl, ?_⟩ (Rp.lst upd_same (rpAll_dN.mpr rfl)) s2
    refine Nat.le_trans (List.length_filter_le _ _) ?_
    rw [List.length_range]
    exact Nat.le_refl _
/-- xs + ys, a new list that may change -/
theorem ev_catNew (h : EvP a G0 σ te (LZ n)) (h' : EvP a G0 σ tb (LZ k)) (hn : n + k ≤ 1000) {G H : Hp} {Q : VK} (hh : HandAt G H a) (g : Same G0 G)
    (q : ∀ p xs ds G' H', H p = none → G' p = none → H' p = some (.lst xs) → RpAll G' ds xs → ZL (n + k) ds → Stp a G H G' H' → Q (.ref p) H') : tOp rCat te tb σ H Q := h G H _ hh g fun v d G' H' hz hr s => by
  refine h' G' H' _ s.hand (g.trans s.gg) fun w e G2 H2 hz2 hr2 s2 => ?_
  obtain ⟨ds, rfl, l1, z1⟩ := hz
  obtain ⟨es, rfl, l2, z2⟩ := hz2
  obtain ⟨b, xs, rfl, hb, hx⟩ := rp_list.mp (hr.up s2.gg)
  obtain ⟨c, ys, rfl, hc, hy⟩ := rp_list.mp hr2
  have st := s.call s2
  refine s_catL (s2.gh _ _ hb) (s2.gh _ _ hc) (by rw [hx.length, hy.length]; omega) fun p hp => ?_
  refine q p _ (ds ++ es) G2 _ (st.free hp) (gfree s2.gh hp) upd_same (hx.append hy) ⟨by rw [List.length_append]; omega, fun d hd => ?_⟩ (st.new hp)
  rcases List.mem_append.mp hd with hd | hd
  · exact z1 d hd
  · exact z2 d hd
end
theorem atI0 {x : Nat} {xr : List Nat} : atI (vN (x :: xr)) 0 = some (.int (x : Int)) := atI_nat (vN (x :: xr)) 0
abbrev oP (a p : Addr) (kd m : Nat) (g ra ga : Addr) (d : Nat) (z : Option V) : L2.St := [some (.ref a), some (.ref p), some (.int (kd : Int)), some (.int (m : Int)), some (.ref g), some (.ref ra), some (.ref ga), some (.int (d : Int)), z, none]
theorem pure__law_odd_part (vs : List V) (H : Hp) (Q : VK) (E : XK) (h : sp__law_odd_part vs H Q E) : t__law_odd_part K { nx := fun _ H' => Q .non H', rt := Q } (start ["_law_hand_here", "_law_parts", "_law_kind", "_law_many", "_law_there", "_law_recipes", "_law_goals", "_law_one", "_law_odd", "_law_k"] vs) H := by
  obtain ⟨a, p, kd, m, gv, rs, gl, G, rfl, hkd, hh, hp, kit, k⟩ := h
  obtain ⟨g, ra, ga, hp0, hg, hra, hga⟩ := parts_at hp
  have m40 := kit.m40
  have m3 := kit.m3
  obtain ⟨gl', egl, hgl, hgl0, _⟩ := kit.glOk
  obtain rfl := lotD_inj egl
  have lgv := lot_small kit.gvOk m40
  have lgl := lot_small hgl m40
  show t__law_odd_part K _ [some (.ref a), some (.ref p), some (.int (kd : Int)), none, none, none, none, none, none, none] H
  unfold t__law_odd_part
  tm_at "go"
  refine g_tup (hh.same _ _ hp0) rfl ?_
  tm_at "go"
  refine ⟨a, _, G, rfl, hh, by omega, by omega, fun d H1 hd s1 => ?_⟩
  have s01 := (Stp.refl hh).call s1
  have fin : ∀ v d G' H', szD d = true → Rp G' d v → Stp a G H1 G' H' → Q v H' := fun v d G' H' hz hR s => k d v G' H' hz hR (s01.call s)
  have e0 : Same G G := .refl _
  have V3 : ∀ (z : Option V) {G'}, Same G G' → EvP a G' (oP a p kd m g ra ga d z) (tVar 3) (IsI (m : Int)) := fun z G' e => ev_var (d := .int (m : Int)) rfl Rp.int rfl
  have V7 : ∀ (z : Option V) {G'}, Same G G' → EvP a G' (oP a p kd m g ra ga d z) (tVar 7) (IsI (d : Int)) := fun z G' e => ev_var (d := .int (d : Int)) rfl Rp.int rfl
  have V4 : ∀ (z : Option V) {G'}, Same G G' → EvP a G' (oP a p kd m g ra ga d z) (tVar 4) (TZ 40) := fun z G' e => ev_var (d := lotD gv) rfl ((rp_lot.mpr ⟨g, rfl, hg⟩ : Rp G (lotD gv) (.ref g)).up e) (lot_tz lgv)
  have V6 : ∀ (z : Option V) {G'}, Same G G' → EvP a G' (oP a p kd m g ra ga d z) (tVar 6) (TZ 40) := fun z G' e => ev_var (d := lotD gl) rfl ((rp_lot.mpr ⟨ga, rfl, hga⟩ : Rp G (lotD gl) (.ref ga)).up e) (lot_tz lgl)
  have X4 : ∀ (z : Option V) {G'}, Same G G' → EvP a G' (oP a p kd m g ra ga d z) (tOp rIxF (tVar 4) (tC (.int 0))) ZD := fun z G' e G2 H2 Q' hh' g' q => by
    obtain ⟨x, xr, hgv⟩ : ∃ x xr, gv = x :: xr := by
      cases e : gv with
      | nil => exact absurd e kit.gv0
      | cons x l => exact ⟨x, l, rfl⟩
    subst hgv
    exact s_op (s_var rfl (s_c (s_ixT (hh'.same _ _ (g' _ _ (e _ _ hg))) (v := .int (x : Int)) atI0 (q _ (.int (x : Int)) _ _ rfl Rp.int (.refl hh')))))
  have X6 : ∀ (z : Option V) {G'}, Same G G' → EvP a G' (oP a p kd m g ra ga d z) (tOp rIxF (tVar 6) (tC (.int 0))) ZD := fun z G' e G2 H2 Q' hh' g' q => by
    obtain ⟨x, xr, hgv⟩ : ∃ x xr, gl = x :: xr := by
      cases e : gl with
      | nil => exact absurd e hgl0
      | cons x l => exact ⟨x, l, rfl⟩
    subst hgv
    exact s_op (s_var rfl (s_c (s_ixT (hh'.same _ _ (g' _ _ (e _ _ hga))) (v := .int (x : Int)) atI0 (q _ (.int (x : Int)) _ _ rfl Rp.int (.refl hh')))))
  have pick : ∀ (n : Nat) v d' G2 H2, LZ n d' → Rp G2 d' v → 0 < n → n ≤ 1000 → Stp a G H1 G2 H2 → (tRet (tOp rIxF (tVar 8) (tCall sp__law_draw [] E0 (tCons (tVar 0) (tCons (tCB rLenF (tCons (tVar 8) tNil)) tNil))))) { nx := fun _ H' => Q .non H', rt := Q } (oP a p kd m g ra ga d (some v)) H2 := by
    intro n v d' G2 H2 hz hr hn hn2 s
    refine s_ret ?_
    exact ev_pick (σ := oP a p kd m g ra ga d (some v)) rfl hr hz hn hn2 rfl G2 H2 _ s.hand (.refl _) fun v d' G6 H6 hz hR s6 => fin v d' G6 H6 hz hR (s.call s6)
  have kc : kd = 0 ∨ kd = 1 ∨ kd = 2 ∨ kd = 3 := by omega
  tm_at "go"
  refine s_ited (fun h0 => ?_) fun h0 => ?_
  · refine s_seq (s_asg ?_)
    refine ev_lst (n := 14) (evs_cons ev_i (evs_cons ev_i (evs_cons ev_m1 (evs_cons ev_i (evs_cons ev_i (evs_cons ev_i (evs_cons (ev_intZ (ev_add (V3 none e0) ev_int)) (evs_cons (ev_intZ (ev_sub (V3 none e0) ev_int)) (evs_cons ev_bl (evs_cons ev_non (evs_cons (ev_str (V3 none e0) (log_small (by omega)))
      (evs_cons (ev_t1 (ev_intZ (V3 none e0))) (evs_cons (ev_intZ (ev_pow ev_int ev_int ⟨by decide, by decide, by decide⟩)) (evs_cons ev_l0 evs_nil)))))))))))))) (by decide) G H1 _ s1.hand e0 fun v1 d1 G2 H2 z1 r1 s2 => ?_
    exact pick 14 _ _ _ _ z1 r1 (by decide) (by decide) s2
  tm_at "go"
  refine s_ited (fun h1 => ?_) fun h1 => ?_
  · refine s_seq (s_asg ?_)
    refine ev_lst (n := 11) (evs_cons ev_t0 (evs_cons (ev_t1 (ev_intZ (V7 none e0))) (evs_cons (ev_tupZ (ev_slT (lo := none) (hi := some 1) (V4 none e0) (fun _ _ q => q) (fun _ _ q => ⟨1, rfl, q⟩)) (by decide)) (evs_cons (ev_tupZ (ev_catT (V4 none e0) (V4 none e0) (by decide)) (by decide)) (evs_cons (ev_tupZ (ev_rev (V4 none e0)) (by decide)) (evs_cons (ev_list (V4 none e0) (by decide)) (evs_cons ev_non
      (evs_cons (ev_t1 (ev_intZ (V3 none e0))) (evs_cons (ev_t1 ev_m1) (evs_cons (ev_t1 ev_bl) (evs_cons (X4 none e0) evs_nil))))))))))) (by decide) G H1 _ s1.hand e0 fun v1 d1 G2 H2 z1 r1 s2 => ?_
    dsimp only [List.set]
    refine s_seq (s_asg ?_)
    have e2 := s2.gg
    have L1 : EvP a G2 (oP a p kd m g ra ga d (some v1)) (tVar 8) (LZ 11) := ev_var rfl r1 z1
    have but : EvP a G2 (oP a p kd m g ra ga d (some v1)) (tLc (iTup K (tVar 4)) (gName 9) (tTest (tOp rNe (tVar 9) (tVar 7))) (tVar 9) [9]) (NL 40) := ev_but (ns := gv) rfl (e2 _ _ hg) rfl (by decide) (by show 9 < 10; decide) lgv (by decide) rfl
    refine ev_catL L1 (ev_lst (n := 4) (evs_cons (ev_tupZ (ev_tuprg (V3 _ e2) (by omega)) (by omega)) (evs_cons (ev_tupZ (V6 _ e2) (by decide)) (evs_cons (ev_tupZ (ev_tsort (ev_catN but (ev_nlit (ks := [d]) (evs_one (V7 _ e2)) (by show 1 ≤ 1000; decide)) (by show 40 + 1 ≤ 1000; decide)) (by show 40 + 1 ≤ 1000; decide)) (by show 40 + 1 ≤ 1000; decide))
      (evs_cons (ev_t1 (ev_str (V7 _ e2) (log_small (by omega)))) evs_nil)))) (by decide)) (by decide) G2 H2 _ s2.hand (.refl _) fun v2 d2 G3 H3 z2 r2 s3 => ?_
    exact pick 15 _ _ _ _ z2 r2 (by decide) (by decide) (s2.call s3)
  tm_at "go"
  refine s_ited (fun h2 => ?_) fun h2 => ?_
  · tm_at "go"
    exact ⟨a, p, m, gv, rs, gl, G, rfl, s1.hand, hp, kit, fun d' v G' H' hz hR s => fin v d' G' H' hz hR s⟩
  refine s_next ?_
  dsimp only
  refine s_seq (s_asg ?_)
  refine ev_lst (n := 11) (evs_cons ev_t0 (evs_cons (ev_t1 (ev_intZ (V7 none e0))) (evs_cons (ev_tupZ (V4 none e0) (by decide)) (evs_cons (ev_tupZ (ev_slT (lo := none) (hi := some 1) (V6 none e0) (fun _ _ q => q) (fun _ _ q => ⟨1, rfl, q⟩)) (by decide)) (evs_cons (ev_tupZ (ev_catT (V6 none e0) (V6 none e0) (by decide)) (by decide)) (evs_cons (ev_tupZ (ev_rev (V6 none e0)) (by decide)) (evs_cons (ev_list (V6 none e0) (by decide)) (evs_cons ev_non
    (evs_cons (ev_t1 (ev_intZ (V3 none e0))) (evs_cons (ev_t1 ev_m1) (evs_cons (ev_t1 ev_bl) evs_nil))))))))))) (by decide) G H1 _ s1.hand e0 fun v1 d1 G2 H2 z1 r1 s2 => ?_
  dsimp only [List.set]
  refine s_seq (s_asg ?_)
  have e2 := s2.gg
  have L1 : EvP a G2 (oP a p kd m g ra ga d (some v1)) (tVar 8) (LZ 11) := ev_var rfl r1 z1
  have nin : EvP a G2 (oP a p kd m g ra ga d (some v1)) (tLc (iRng1 (tCons (tVar 3) tNil)) (gName 9) (tTest (tOp (rInF true) (tVar 9) (tVar 4))) (tVar 9) [9]) (NL m) := ev_notin (ns := gv) rfl (e2 _ _ hg) rfl (by decide) (by show 9 < 10; decide) (by omega)
  refine ev_catNew L1 (ev_lst (n := 3) (evs_cons (ev_tupZ (ev_tupN nin) (by omega)) (evs_cons (X6 _ e2) (evs_cons (ev_t1 (ev_str (V7 _ e2) (log_small (by omega)))) evs_nil))) (by decide)) (by decide) s2.hand (.refl _) fun p8 xs8 ds8 G3 H3 hp8 hg8 hq8 hx8 hz8 s3 => ?_
  dsimp only [List.set]
  refine s_seq (s_drop (s_bm (s_var rfl (s_tyL hq8 (s_cons ?_)))))
  have e3 := e2.trans s3.gg
  have but : EvP a G3 (oP a p kd m g ra ga d (some (.ref p8))) (tLc (iTup K (tVar 6)) (gName 9) (tTest (tOp rNe (tVar 9) (tVar 7))) (tVar 9) [9]) (NL 40) := ev_but (ns := gl) rfl (e3 _ _ hga) rfl (by decide) (by show 9 < 10; decide) lgl (by decide) rfl
  refine ev_tsort (ev_catN but (ev_nlit (ks := [d]) (evs_one (V7 _ e3)) (by show 1 ≤ 1000; decide)) (by show 40 + 1 ≤ 1000; decide)) (by show 40 + 1 ≤ 1000; decide) G3 H3 _ s3.hand (.refl _) fun v4 d4 G4 H4 z4 r4 s4 => ?_
  have hp8a := s2.hand.ne hp8
  have hq4 := s4.kp hq8 hp8a
  have hg4 := s4.out hg8 hq8
  have st4 := s3.call s4
  have st5 : Stp a G2 H2 G4 (upd H4 p8 (.lst (xs8 ++ [v4]))) := st4.put hg4 hp8 hp8a
  have st6 := st5.hold hp8 hg4 upd_same hp8a
  refine s_nil (s_app hq4 (by rw [hx8.length, hz8.1]; decide) ?_)
  refine pick 15 _ (.list (ds8 ++ [d4])) _ _ ⟨_, rfl, by rw [List.length_append, hz8.1]; rfl, fun e he => ?_⟩ (Rp.lst upd_same (((hx8.up s4.gg).snoc r4).up (L2.Same.new hg4))) (by decide) (by decide) (s2.call st6)
  rcases List.mem_append.mp he with he | he
  · exact hz8.2 e he
  · rw [List.mem_singleton.mp he]
    exact z4.z (by show 40 + 1 ≤ 1000; decide)
end Un
namespace Un
open PySem L2 PySem.Spec PyProof.Rows
local macro_rules | `(tactic| tm_at "s") => `(tactic| with_reducible first
  | refine s_seq ?_ | (refine s_asg ?_; dsimp only [List.set]) | refine s_asgG ?_ | refine g_sub ?_ | refine s_sl ?_ | refine s_noPart ?_ | refine s_part ?_ | refine s_bm ?_ | refine s_lstRg ?_ | refine s_tupRg ?_ | refine s_rg1 ?_ | refine s_rg2 ?_  | refine s_isB ?_ | refine s_notB ?_ | refine s_next ?_ | refine s_ret ?_ | refine s_drop ?_ | refine s_ifs ?_ | refine s_brk ?_ | refine s_cont ?_ | refine s_retN ?_
  | refine s_var rfl ?_ | refine s_c ?_ | refine s_op ?_ | refine s_cons ?_ | refine s_nil ?_ | refine s_call ?_ | refine s_CB ?_ | refine s_un ?_
  | refine s_test ?_ | refine s_tB ?_ | refine s_k ?_ | refine s_not ?_ | refine s_and ?_ | refine s_or ?_ | refine s_notV ?_ | refine s_andV ?_ | refine s_orV ?_ | refine s_if ?_
  | refine s_add ?_ | refine s_sub ?_ | refine s_lt ?_ | refine s_le ?_ | refine s_gt ?_ | refine s_ge ?_ | refine s_eqI ?_ | refine s_neI ?_ | refine s_band ?_ | refine s_bor ?_ | refine s_neg ?_ | refine s_inv ?_
  | refine s_isN ?_ | refine s_notN ?_ | refine s_int1 ?_ | refine s_abs ?_ | refine s_min2 ?_ | refine s_max2 ?_
  | refine s_tup ?_ | refine s_lst ?_ | refine s_chain ?_ | refine s_truI ?_ | refine s_ki ?_ | refine s_sfld ?_ | refine s_fld ?_ | refine g_cons ?_ | refine g_nil ?_ | (refine g_name ?_; dsimp only [List.set]) | refine s_isD (by decide) (by assumption) ?_)
local macro_rules | `(tactic| tm_at "go") => `(tactic| repeat' (tm_at "s"))
theorem pure__law_spoiled (vs : List V) (H : Hp) (Q : VK) (E : XK) (h : sp__law_spoiled vs H Q E) : t__law_spoiled { nx := fun _ H' => Q .non H', rt := Q } (start ["_law_hand_here", "_law_parts", "_law_odd", "_law_turn", "_law_kind"] vs) H := by
  obtain ⟨a, p, m, gv, rs, gl, G, rfl, hh, hp, kit, k⟩ := h
  obtain ⟨g, ra, ga, hp0, hg, hra, hga⟩ := parts_at hp
  have m40 := kit.m40
  obtain ⟨gl', egl, hgl, hgl0, _⟩ := kit.glOk
  obtain rfl := lotD_inj egl
  have z1 : ZD (lotD gv) := (lot_tz (lot_small kit.gvOk m40)).z (by decide)
  have z3 : ZD (lotD gl) := (lot_tz (lot_small hgl m40)).z (by decide)
  have z2 : ZD (recsD rs) := (recs_tz kit.rsl fun r hr => by have := lot_small (kit.rsOk r hr).2.1 m40; omega).z (by decide)
  show t__law_spoiled _ [some (.ref a), some (.ref p), none, none, none] H
  unfold t__law_spoiled
  tm_at "go"
  refine s_lstT (hh.same _ _ hp0) fun q hq => ?_
  have s1 := (Stp.refl hh).new (o := .lst [.int (m : Int), .ref g, .ref ra, .ref ga]) hq
  have hqa := hh.ne hq
  have gq := gfree hh.same hq
  tm_at "go"
  refine s_forRx ?_
  tm_at "go"
  refine ⟨a, _, G, rfl, s1.hand, by decide, by decide, fun n H2 hn s2 => ?_⟩
  have hq2 := s2.kp (p := q) upd_same hqa
  have st2 := s1.call s2
  tm_at "go"
  have e1 : (1 : Int) + (n : Int) = ((1 + n : Nat) : Int) := by omega
  rw [e1]
  refine s_forR (1 + n) (fun i σ H3 => ∃ (y3 y4 : Option V) (v0 v1 v2 v3 : V) (d0 d1 d2 d3 : PyData) (G3 : Hp), σ = [some (.ref a), some (.ref p), some (.ref q), y3, y4] ∧ Stp a G H G3 H3 ∧ H3 q = some (.lst [v0, v1, v2, v3]) ∧ G3 q = none ∧
      Rp G3 d0 v0 ∧ Rp G3 d1 v1 ∧ Rp G3 d2 v2 ∧ Rp G3 d3 v3 ∧ szD d0 = true ∧ szD d1 = true ∧ szD d2 = true ∧ szD d3 = true)
    (by omega) ⟨none, none, _, _, _, _, .int (m : Int), lotD gv, recsD rs, lotD gl, G, rfl, st2, hq2, gq, Rp.int, rp_lot.mpr ⟨g, rfl, hg⟩, hra, rp_lot.mpr ⟨ga, rfl, hga⟩, rfl, z1, z2, z3⟩ ?_ ?_ fun _ q => q
  · rintro i σ H3 hi ⟨y3, y4, v0, v1, v2, v3, d0, d1, d2, d3, G3, rfl, st3, hq3, gq3, r0, r1, r2, r3, c0, c1, c2, c3⟩
    refine g_slot ?_
    show tSeq _ _ _ [some (.ref a), some (.ref p), some (.ref q), some (.int (i : Nat)), y4] H3
    tm_at "go"
    refine ⟨a, _, G3, rfl, st3.hand, by decide, by decide, fun kd H4 hk4 s4 => ?_⟩
    have hq4 := s4.kp hq3 hqa
    have st4 := st3.call s4
    tm_at "go"
    refine ⟨a, p, kd, m, gv, rs, gl, G3, rfl, by omega, s4.hand, hp.up st3.gg, kit, fun d v G5 H5 hz hR s5 => ?_⟩
    have hq5 := s5.kp hq4 hqa
    have gq5 := s5.out gq3 hq4
    have st5 := st4.call s5
    have u := s5.gg
    tm_at "go"
    refine s_setL (j := kd) hq5 (by unfold ixN; rw [if_pos (by omega), if_pos (by show (kd : Int) < (4 : Int); omega), Int.toNat_natCast]) ?_
    have st6 := fun (w0 w1 w2 w3 : V) => st5.put (o := .lst [w0, w1, w2, w3]) gq5 hq hqa
    have hkd : kd = 0 ∨ kd = 1 ∨ kd = 2 ∨ kd = 3 := by omega
    rcases hkd with rfl | rfl | rfl | rfl
    · exact ⟨_, _, v, v1, v2, v3, d, d1, d2, d3, G5, rfl, st6 v v1 v2 v3, upd_same, gq5, hR, r1.up u, r2.up u, r3.up u, hz, c1, c2, c3⟩
    · exact ⟨_, _, v0, v, v2, v3, d0, d, d2, d3, G5, rfl, st6 v0 v v2 v3, upd_same, gq5, r0.up u, hR, r2.up u, r3.up u, c0, hz, c2, c3⟩
    · exact ⟨_, _, v0, v1, v, v3, d0, d1, d, d3, G5, rfl, st6 v0 v1 v v3, upd_same, gq5, r0.up u, r1.up u, hR, r3.up u, c0, c1, hz, c3⟩
    · exact ⟨_, _, v0, v1, v2, v, d0, d1, d2, d, G5, rfl, st6 v0 v1 v2 v, upd_same, gq5, r0.up u, r1.up u, r2.up u, hR, c0, c1, c2, hz⟩
  · rintro σ H3 ⟨y3, y4, v0, v1, v2, v3, d0, d1, d2, d3, G3, rfl, st3, hq3, gq3, r0, r1, r2, r3, c0, c1, c2, c3⟩
    have st4 := st3.hold hq gq3 hq3 hqa
    have u : Same G3 (upd G3 q (.lst [v0, v1, v2, v3])) := L2.Same.new gq3
    tm_at "go"
    exact k d0 d1 d2 d3 v0 v1 v2 v3 q _ _ c0 c1 c2 c3 st4 upd_same (r0.up u) (r1.up u) (r2.up u) (r3.up u)
end Un
/-! The law's checks of what it gets. -/
namespace Un
open PySem L2 PySem.Spec PyProof.Rows
/-- good parts -/
structure Good (m : Nat) (gv : List Nat) (rs : List Rec) (gl : List Nat) : Prop where
  m2 : 2 ≤ m
  m40 : m ≤ 40
  gvOk : LotN m gv
  rsOk : ∀ r ∈ rs, RecN m gv r
  rsl : rs.length ≤ 40
  glOk : GoalsOk m gv rs (lotD gl)
theorem Kit.good {m : Nat} {gv gl : List Nat} {rs : List Rec} (k : Kit m gv rs gl) : Good m gv rs gl := ⟨by have := k.m3; omega, k.m40, k.gvOk, k.rsOk, k.rsl, k.glOk⟩
theorem Good.lens {m : Nat} {gv gl : List Nat} {rs : List Rec} (k : Good m gv rs gl) : gv.length ≤ 40 ∧ gl.length ≤ 40 ∧ ∀ r ∈ rs, r.1.length ≤ 40 := by
  have m40 := k.m40
  obtain ⟨gl', egl, hgl, _⟩ := k.glOk
  obtain rfl := lotD_inj egl
  exact ⟨lot_small k.gvOk m40, lot_small hgl m40, fun r hr => lot_small (k.rsOk r hr).2.1 m40⟩
theorem bad_none {d0 d1 d2 d3 : PyData} (h : badP d0 d1 d2 d3 = none) : ∃ (m : Nat) (gv : List Nat) (rs : List Rec) (gl : List Nat), d0 = .int (m : Int) ∧ d1 = lotD gv ∧ d2 = recsD rs ∧ d3 = lotD gl ∧ Good m gv rs gl := by
  unfold badP at h
  by_cases b0 : btw d0 2 40 = false
  · rw [if_pos b0] at h
    cases h
  rw [if_neg b0] at h
  by_cases b1 : isLot d1 (toI d0) = false
  · rw [if_pos b1] at h
    cases h
  rw [if_neg b1] at h
  by_cases b2 : decP (RecsOk (toI d0) (toNs d1) d2) = false
  · rw [if_pos b2] at h
    cases h
  rw [if_neg b2] at h
  by_cases b3 : decP (GoalsOk (toI d0) (toNs d1) (toRs d2) d3) = false
  · rw [if_pos b3] at h
    cases h
  obtain ⟨m, rfl, hm2, hm40⟩ : ∃ m : Nat, d0 = .int (m : Int) ∧ 2 ≤ m ∧ m ≤ 40 := by
    cases d0 with
    | int i =>
      have b0' : ¬ (decide (2 ≤ i) && decide (i ≤ 40)) = false := b0
      rw [Bool.not_eq_false, Bool.and_eq_true, decide_eq_true_eq, decide_eq_true_eq] at b0'
      exact ⟨i.toNat, by rw [Int.toNat_of_nonneg (by omega)], by omega, by omega⟩
    | _ => exact absurd rfl b0
  rw [Bool.not_eq_false] at b1 b2 b3
  obtain ⟨gv, rfl, hgv⟩ := isLot_iff.mp b1
  rw [toNs_lot] at b2 b3
  obtain ⟨rs, rfl, h1, h2⟩ := decP_iff.mp b2
  rw [toRs_recs] at b3
  have h3 := decP_iff.mp b3
  obtain ⟨gl, rfl, _⟩ := id h3
  exact ⟨m, gv, rs, gl, rfl, rfl, rfl, rfl, hm2, hm40, hgv, h2, h1, h3⟩
/-! ### == of parts -/
theorem plain_dN : ∀ ns : List Nat, plainL (dN ns) = true
  | [] => rfl
  | n :: ns => by
    show (plainD (.int (n : Int)) && plainL (dN ns)) = true
    rw [plain_dN ns]
    rfl
theorem plain_recs : ∀ rs : List Rec, plainL (rs.map recD) = true
  | [] => rfl
  | r :: rs => by
    show (plainD (recD r) && plainL (rs.map recD)) = true
    rw [plain_recs rs]
    show ((plainL (dN r.1) && (plainD (.int (r.2 : Int)) && plainL [])) && true) = true
    rw [plain_dN]
    rfl
theorem plain_parts {m : Nat} {gv gl : List Nat} {rs : List Rec} : plainL (partsD m gv rs gl) = true := by
  show (plainD (.int (m : Int)) && (plainL (dN gv) && (plainL (rs.map recD) && (plainL (dN gl) && true)))) = true
  rw [plain_dN, plain_dN, plain_recs]
  rfl
mutual
theorem eqv_self : ∀ d : PyData, plainD d = true → PyData.eqv d d = true
  | .none, _ => rfl
  | .bool b, _ => by cases b <;> rfl
  | .int i, _ => by show (i == i) = true; simp
  | .str s, _ => by show (s == s) = true; simp
  | .list ds, h => eqvAll_self ds (by simpa only [plainD] using h)
  | .tuple ds, h => eqvAll_self ds (by simpa only [plainD] using h)
  | .dict _, h => by simp [plainD] at h
theorem eqvAll_self : ∀ ds : List PyData, plainL ds = true → PyData.eqvAll ds ds = true
  | [], _ => rfl
  | d :: ds, h => by
    simp only [plainL, Bool.and_eq_true] at h
    show (PyData.eqv d d && PyData.eqvAll ds ds) = true
    rw [eqv_self d h.1, eqvAll_self ds h.2]
    rfl
end
/-- lists that hold the same, but in another order, both ascending -/
theorem sorted_uniq : ∀ {a b : List Nat}, a.Perm b → a.Pairwise (· ≤ ·) → b.Pairwise (· ≤ ·) → a = b
  | [], b, p, _, _ => by rw [List.nil_perm.mp p]
  | x :: a, [], p, _, _ => by
    have := p.length_eq
    simp at this
  | x :: a, y :: b, p, ha, hb => by
    obtain ⟨h1, h2⟩ := List.pairwise_cons.mp ha
    obtain ⟨h3, h4⟩ := List.pairwise_cons.mp hb
    have e : x = y := by
      have hx : x ∈ y :: b := p.mem_iff.mp (List.mem_cons_self ..)
      have hy : y ∈ x :: a := p.mem_iff.mpr (List.mem_cons_self ..)
      rcases List.mem_cons.mp hx with e | hx
      · exact e
      · rcases List.mem_cons.mp hy with e | hy
        · exact e.symm
        · have := h1 y hy
          have := h3 x hx
          omega
    subst e
    rw [sorted_uniq (List.Perm.cons_inv p) h2 h4]
theorem nodup_full {L : List Nat} {m : Nat} (nd : L.Nodup) (lt : ∀ n ∈ L, n < m) (hl : m ≤ L.length) {n : Nat} (hn : n < m) : n ∈ L := by
  apply Classical.byContradiction
  intro h
  have := nodup_len (L := n :: L) (L' := List.range m) (List.nodup_cons.mpr ⟨h, nd⟩) fun t ht => by
    rcases List.mem_cons.mp ht with rfl | ht
    · exact List.mem_range.mpr hn
    · exact List.mem_range.mpr (lt t ht)
  rw [List.length_cons, List.length_range] at this
  omega
/-- parts (a list or a tuple) with m things and the recipes rs -/
def PartsAt (H : Hp) (p : Addr) (m : Nat) (rs : List Rec) : Prop := ∃ xs a2, (H p = some (.lst xs) ∨ H p = some (.tup xs)) ∧ atI xs 0 = some (.int (m : Int)) ∧ atI xs 2 = some (.ref a2) ∧ Rp H (recsD rs) (.ref a2)
theorem PartsAt.up {H H' : Hp} {p : Addr} {m : Nat} {rs : List Rec} (h : PartsAt H p m rs) (e : Same H H') : PartsAt H' p m rs := by
  obtain ⟨xs, a2, h1, h2, h3, h4⟩ := h
  exact ⟨xs, a2, h1.imp (fun h => e _ _ h) fun h => e _ _ h, h2, h3, h4.up e⟩
def sp__law_has_ring : Sp := fun vs H Q _ => ∃ (p : Addr) (m : Nat) (rs : List Rec), vs = [.ref p] ∧ PartsAt H p m rs ∧ m ≤ 1000 ∧ rs.length ≤ 1000 ∧ (∀ r ∈ rs, r.1.length ≤ 1000) ∧
  ∀ L H', Ord m rs L → OrdAll m rs L → Same H H' → Q (.bl (decide (L.length < m))) H'
/-- what kitchen_order tells -/
def OrdV (H : Hp) (m : Nat) (rs : List Rec) (v : V) : Prop := ∃ L, Ord m rs L ∧ OrdAll m rs L ∧ ((L.length < m ∧ v = .non) ∨ (¬ L.length < m ∧ ∃ q, v = .ref q ∧ TupZ H q (vN L)))
def sp__law_is_order : Sp := fun vs H Q _ => ∃ (p : Addr) (v : V) (m : Nat) (rs : List Rec), vs = [.ref p, v] ∧ PartsAt H p m rs ∧ m ≤ 1000 ∧ rs.length ≤ 1000 ∧ (∀ r ∈ rs, r.1.length ≤ 1000 ∧ r.2 < m) ∧ OrdV H m rs v ∧ ∀ H', Same H H' → Q (.bl true) H'
def sp__law_keeps (C : Addr) : Sp := fun vs H Q _ => ∃ (b dx q : Addr) (v0 v1 v2 v3 : V) (m : Nat) (gv : List Nat) (rs : List Rec) (gl : List Nat) (xs : List V), vs = [.ref b, .ref q] ∧ H b = some (.ins C dx (cookF v0 v1 v2 v3)) ∧ Good m gv rs gl ∧ RpAll H (partsD m gv rs gl) [v0, v1, v2, v3] ∧
  (H q = some (.lst xs) ∨ H q = some (.tup xs)) ∧ RpAll H (partsD m gv rs gl) xs ∧ ∀ H', Same H H' → Q (.bl true) H'
end Un
namespace Un
open PySem L2 PySem.Spec PyProof.Rows
/-- _law_has_ring: 0 _law_parts, 1 _law_needs_here, 2 _law_found, 3 _law_turn, 4 _law_size, 5 _law_thing, 6 _law_lot, 7 _law_made_here, 8 _law_one -/
def t__law_has_ring (K : PySem.W.Frag) : TS :=
  (tSeq (tAsg (tLc (iRng1 (tCons (tOp rIxF (tVar 0) (tC (.int 0))) tNil)) (gName 5) tYes (tLc (iTup K (tOp rIxF (tVar 0) (tC (.int 2)))) (gTup K 2 (gCons (gName 6) (gCons (gName 7) gNil))) (tTest (tOp rEq (tVar 7) (tVar 5))) (tVar 6) [6, 7]) [5]) (gName 1))
    (tSeq (tAsg (tLst tNil) (gName 2))
    (tSeq (tFor (iRng1 (tCons (tOp rIxF (tVar 0) (tC (.int 0))) tNil)) (gName 3)
    (tSeq (tAsg (tCB rLenF (tCons (tVar 2) tNil)) (gName 4))
    (tSeq (tFor (iRng1 (tCons (tOp rIxF (tVar 0) (tC (.int 0))) tNil)) (gName 5)
    (tIfS (tAnd (tTest (tOp (rInF true) (tVar 5) (tVar 2))) (tB (tCB rAllF (tCons (tLc (iList K (tOp rIxF (tVar 1) (tVar 5))) (gName 6) tYes (tCB rAllF (tCons (tLc (iTup K (tVar 6)) (gName 8) tYes (tOp (rInF false) (tVar 8) (tVar 2)) [8]) tNil)) [6]) tNil)))) (tDrop (tBM K "list" rAppend (tVar 2) (tCons (tVar 5) tNil))) tNext))
    (tIfS (tTest (tOp rEq (tCB rLenF (tCons (tVar 2) tNil)) (tVar 4))) tBreak tNext))))
    (tRet (tOp rLtI (tCB rLenF (tCons (tVar 2) tNil)) (tOp rIxF (tVar 0) (tC (.int 0))))))))
/-- _law_is_order: 0 _law_parts, 1 _law_order, 2 _law_at, 3 _law_one, 4 _law_thing, 5 _law_lot -/
def t__law_is_order (K : PySem.W.Frag) : TS :=
  (tSeq (tIfS (tOr (tTest (tOp rIsNon (tVar 1) (tC .non))) (tB (tCall sp__law_has_ring [] E0 (tCons (tVar 0) tNil)))) (tRet (tAndV (tOp rIsNon (tVar 1) (tC .non)) (tCall sp__law_has_ring [] E0 (tCons (tVar 0) tNil)))) tNext)
    (tSeq (tIfS (tOr (tNot (tB (tCB (rIsX K) (tCons (tVar 1) (tCons (tC (.ty "tuple")) tNil))))) (tNot (tB (tCB rAllF (tCons (tLc (iTup K (tVar 1)) (gName 3) tYes (tCall sp__law_is_number [] E0 (tCons (tVar 3) (tCons (tOp rIxF (tVar 0) (tC (.int 0))) tNil))) [3]) tNil))))) (tRet (tC (.bl false))) tNext)
    (tSeq (tIfS (tTest (tOp rNeP (tCB (rSortedTQ K) (tCons (tVar 1) tNil)) (tLstRg (tRg1 (tOp rIxF (tVar 0) (tC (.int 0))))))) (tRet (tC (.bl false))) tNext)
    (tSeq (tAsg (tLc (iRng1 (tCons (tOp rIxF (tVar 0) (tC (.int 0))) tNil)) (gName 4) tYes (tBMZ (rIndexZ K) (tVar 1) (tCons (tVar 4) tNil)) [4]) (gName 2))
    (tRet (tCB rAllF (tCons (tLc (iTup K (tOp rIxF (tVar 0) (tC (.int 2)))) (gTup K 2 (gCons (gName 5) (gCons (gName 4) gNil))) tYes (tCB rAllF (tCons (tLc (iTup K (tVar 5)) (gName 3) tYes (tOp rLtI (tOp rIxF (tVar 2) (tVar 3)) (tOp rIxF (tVar 2) (tVar 4))) [3]) tNil)) [5, 4]) tNil)))))))
/-- _law_keeps: 0 _law_book, 1 _law_parts, 2 _law_recipe -/
def t__law_keeps (K : PySem.W.Frag) (C_Cookery : Addr) : TS :=
  (tSeq (tIfS (tTest (tOp rNeP (tLst (tCons (tMeth C_Cookery "many" (sp_fieldC C_Cookery "kept_many") [] E0 (tVar 0) tNil) (tCons (tMeth C_Cookery "given" (sp_fieldC C_Cookery "kept_given") [] E0 (tVar 0) tNil) (tCons (tMeth C_Cookery "recipes" (sp_fieldC C_Cookery "kept_recipes") [] E0 (tVar 0) tNil) (tCons (tMeth C_Cookery "goals" (sp_fieldC C_Cookery "kept_goals") [] E0 (tVar 0) tNil) tNil))))) (tCB rLstF (tCons (tVar 1) tNil)))) (tRet (tC (.bl false))) tNext)
    (tSeq (tIfS (tOr (tNot (tB (tCall sp__law_is_number [] E0 (tCons (tMeth C_Cookery "many" (sp_fieldC C_Cookery "kept_many") [] E0 (tVar 0) tNil) (tCons (tC (.int 41)) tNil))))) (tOr (tNot (tB (tCall sp__law_is_lot [] E0 (tCons (tMeth C_Cookery "given" (sp_fieldC C_Cookery "kept_given") [] E0 (tVar 0) tNil) (tCons (tC (.int 40)) tNil))))) (tNot (tB (tCall sp__law_is_lot [] E0 (tCons (tMeth C_Cookery "goals" (sp_fieldC C_Cookery "kept_goals") [] E0 (tVar 0) tNil) (tCons (tC (.int 40)) tNil))))))) (tRet (tC (.bl false))) tNext)
    (tRet (tCB rAllF (tCons (tLc (iTup K (tMeth C_Cookery "recipes" (sp_fieldC C_Cookery "kept_recipes") [] E0 (tVar 0) tNil)) (gName 2) tYes (tCall sp__law_is_recipe [] E0 (tCons (tC (.int 40)) (tCons (tTup tNil) (tCons (tVar 2) tNil)))) [2]) tNil)))))
end Un
namespace Un
open PySem L2 PySem.Spec PyProof.Rows
local macro_rules | `(tactic| tm_at "s") => `(tactic| with_reducible first
  | refine s_seq ?_ | (refine s_asg ?_; dsimp only [List.set]) | refine s_asgG ?_ | refine g_sub ?_ | refine s_sl ?_ | refine s_noPart ?_ | refine s_part ?_ | refine s_bm ?_ | refine s_lstRg ?_ | refine s_tupRg ?_ | refine s_rg1 ?_ | refine s_rg2 ?_  | refine s_isB ?_ | refine s_notB ?_ | refine s_next ?_ | refine s_ret ?_ | refine s_drop ?_ | refine s_ifs ?_ | refine s_brk ?_ | refine s_cont ?_ | refine s_retN ?_
  | refine s_var rfl ?_ | refine s_c ?_ | refine s_op ?_ | refine s_cons ?_ | refine s_nil ?_ | refine s_call ?_ | refine s_CB ?_ | refine s_un ?_
  | refine s_test ?_ | refine s_tB ?_ | refine s_k ?_ | refine s_not ?_ | refine s_and ?_ | refine s_or ?_ | refine s_notV ?_ | refine s_andV ?_ | refine s_orV ?_ | refine s_if ?_
  | refine s_add ?_ | refine s_sub ?_ | refine s_lt ?_ | refine s_le ?_ | refine s_gt ?_ | refine s_ge ?_ | refine s_eqI ?_ | refine s_neI ?_ | refine s_band ?_ | refine s_bor ?_ | refine s_neg ?_ | refine s_inv ?_
  | refine s_isN ?_ | refine s_notN ?_ | refine s_int1 ?_ | refine s_abs ?_ | refine s_min2 ?_ | refine s_max2 ?_
  | refine s_tup ?_ | refine s_lst ?_ | refine s_chain ?_ | refine s_truI ?_ | refine s_ki ?_ | refine s_sfld ?_ | refine s_fld ?_ | refine g_cons ?_ | refine g_nil ?_ | (refine g_name ?_; dsimp only [List.set]) | refine s_isD (by decide) (by assumption) ?_)
local macro_rules | `(tactic| tm_at "go") => `(tactic| repeat' (tm_at "s"))
variable {K : PySem.W.Frag}
/-- [lot for lot, made in recipes if made == t] -/
theorem lots_comp {H H1 : Hp} {p a2 : Addr} {ps xs : List V} {rs : List Rec} {t : Nat} {Q : VK} (e1 : Same H H1) (hp : H p = some (.lst ps) ∨ H p = some (.tup ps)) (h2 : atI ps 2 = some (.ref a2)) (ha : H a2 = some (.tup xs)) (hxl : xs.length = rs.length) (hrl : rs.length ≤ 1000)
    (hx : ∀ (i : Nat) (x : V), xs[i]? = some x → ∃ (r : Rec) (b : Addr), rs[i]? = some r ∧ x = V.ref b ∧ ∃ c, H b = some (.tup [.ref c, .int (r.2 : Int)]) ∧ H c = some (.tup (vN r.1)))
    (k : ∀ b ys H3, H1 b = none → Same H1 H3 → H3 b = some (.lst ys) → RpAll H ((lotsFor rs t rs.length).map lotD) ys → Q (.ref b) H3) :
    tLc (iTup K (tOp rIxF (tVar 0) (tC (.int 2)))) (gTup K 2 (gCons (gName 6) (gCons (gName 7) gNil))) (tTest (tOp rEq (tVar 7) (tVar 5))) (tVar 6) [6, 7] [some (.ref p), none, none, none, none, some (.int (t : Nat)), none, none, none] H1 Q := by
  obtain ⟨cF, hcF⟩ : ∃ cF : Nat → Bool, ∀ i r, rs[i]? = some r → cF i = decide (r.2 = t) := ⟨fun i => decide ((rs[i]?.map fun r => r.2) = some t), fun i r hr => by
    show decide ((rs[i]?.map fun r => r.2) = some t) = _
    rw [hr, Option.map_some, Bool.eq_iff_iff, decide_eq_true_eq, decide_eq_true_eq]
    exact ⟨fun h => Option.some.inj h, fun h => congrArg some h⟩⟩
  obtain ⟨fF, hfF⟩ : ∃ fF : Nat → V, ∀ i b cc z, xs[i]? = some (.ref b) → H b = some (.tup [.ref cc, z]) → fF i = .ref cc := ⟨fun i => (xs[i]?.map (lotAt H)).getD .non, fun i b cc z h1 h2 => by
    show (xs[i]?.map (lotAt H)).getD .non = _
    rw [h1]
    show lotAt H (.ref b) = _
    unfold lotAt
    simp only [h2]⟩
  refine s_lcT cF fF (e1 _ _ ha) (by omega) (fun Q' h => ?_) (fun i v hi => ?_) (fun b H3 hb e3 hb3 => ?_)
  · exact s_op (s_var rfl (s_c (s_ixF (hp.imp (fun h => e1 _ _ h) fun h => e1 _ _ h) h2 h)))
  · obtain ⟨r, b, hr, rfl, cc, hb1, hc1⟩ := hx i v hi
    intro H3 P N e3 h1 h2
    show gTup K 2 _ (.ref b) [some (.ref p), none, none, none, none, some (.int (t : Nat)), none, none, none] H3 _
    refine g_tup ((e1.trans e3) _ _ hb1) rfl ?_
    tm_at "go"
    refine ⟨rfl, ?_⟩
    tm_at "go"
    have ef := hfF i b cc _ hi hb1
    refine s_ited (fun h3 => ?_) fun h3 => ?_
    · tm_at "go"
      have := h1 (by rw [hcF i r hr]; exact decide_eq_true (by omega)) H3 (Same.refl _)
      rw [ef] at this
      exact this
    · exact h2 (by rw [hcF i r hr]; exact decide_eq_false fun z => h3 (by omega)) H3 (Same.refl _)
  · have nd : ∀ n, n ≤ rs.length → RpAll H ((lotsFor rs t n).map lotD) (lcOut cF fF n) := by
      intro n
      induction n with
      | zero =>
        intro _
        exact RpAll.nil
      | succ n ih =>
        intro hn
        have hi : xs[n]? = some xs[n] := List.getElem?_eq_getElem (by omega)
        obtain ⟨r, b, hr', ex, cc, hb1, hc1⟩ := hx n _ hi
        rw [lcOut_succ, lotsFor_succ hr', hcF n r hr']
        by_cases e : r.2 = t
        · rw [if_pos e, if_pos (decide_eq_true e), List.map_append, hfF n b cc _ (by rw [hi, ex]) hb1]
          exact (ih (by omega)).append (.cons (rp_lot.mpr ⟨cc, rfl, hc1⟩) .nil)
        · rw [if_neg e, if_neg (by rw [decide_eq_false e]; decide)]
          exact ih (by omega)
    rw [hxl] at hb3
    exact k b _ H3 hb e3 hb3 (nd rs.length (Nat.le_refl _))
theorem lotsFor_len {rs : List Rec} {t n : Nat} : (lotsFor rs t n).length ≤ rs.length := by
  unfold lotsFor
  rw [List.length_map]
  refine Nat.le_trans (List.length_filter_le _ _) ?_
  rw [List.length_take]
  exact Nat.min_le_right _ _
theorem pure__law_has_ring (vs : List V) (H : Hp) (Q : VK) (E : XK) (h : sp__law_has_ring vs H Q E) : t__law_has_ring K { nx := fun _ H' => Q .non H', rt := Q } (start ["_law_parts", "_law_needs_here", "_law_found", "_law_turn", "_law_size", "_law_thing", "_law_lot", "_law_made_here", "_law_one"] vs) H := by
  obtain ⟨p, m, rs, rfl, ⟨ps, a2, hp, hp0, hp2, hrs⟩, hm, hrl, hnl, k⟩ := h
  obtain ⟨_, xs, e, ha, hxl, hx⟩ := rp_recs hrs
  cases e
  have pS : ∀ {H1}, Same H H1 → H1 p = some (.lst ps) ∨ H1 p = some (.tup ps) := fun e => hp.imp (fun h => e _ _ h) fun h => e _ _ h
  show t__law_has_ring K _ [some (.ref p), none, none, none, none, none, none, none, none] H
  unfold t__law_has_ring
  refine s_seq (s_asg ?_)
  refine s_ldR (G0 := H) (fun i acc G1 => ∀ t, t < i → ∃ b ys, acc[t]? = some (.ref b) ∧ G1 b = some (.lst ys) ∧ RpAll H ((lotsFor rs t rs.length).map lotD) ys)
    m (.refl _) (by omega) (fun Q' h => s_cons (s_op (s_var rfl (s_c (s_ixF hp hp0 (s_nil h)))))) (fun t h => absurd h (Nat.not_lt_zero _)) (fun t ht => ?_) fun b1 acc G1 H1 hb1 r1 g1 h1 hal hacc => ?_
  · intro acc G1 H1 hal r1 hacc P hP
    refine g_slot ⟨rfl, ?_⟩
    refine lots_comp (r1.gg.trans r1.gh) hp hp2 ha hxl hrl hx fun b ys H3 hb e3 hb3 hys => ?_
    have c := ((Run.refl (m := m0) r1.gh).more e3).hold hb (gfree r1.gh hb) hb3
    refine hP (.ref b) _ H3 c fun t' ht' => ?_
    by_cases e : t' < t
    · obtain ⟨b', ys', q1, q2, q3⟩ := hacc t' e
      exact ⟨b', ys', by rw [List.getElem?_append_left (by omega)]; exact q1, c.gg _ _ q2, q3⟩
    · have e' : t' = t := by omega
      subst e'
      refine ⟨b, ys, ?_, upd_same, hys⟩
      rw [List.getElem?_append_right (by omega), hal, Nat.sub_self]
      rfl
  · have f1 : Same H H1 := r1.same
    dsimp only [List.set]
    tm_at "go"
    refine ⟨by rw [sizeLine_eq]; decide, fun q hq1 => ?_⟩
    have hq : H q = none := f1.free hq1
    have f2 : Same H (upd H1 q (.lst [])) := f1.trans (L2.Same.new hq1)
    -- what stands of H1 stands
    have keep1 : Same H1 (upd H1 q (.lst [])) := L2.Same.new hq1
    tm_at "go"
    have fin : ∀ (L : List Nat) (H2 : Hp) (y3 y4 y5 : Option V), Same H1 H2 → H2 q = some (.lst (vN L)) → Ord m rs L → OrdAll m rs L → (tRet (tOp rLtI (tCB rLenF (tCons (tVar 2) tNil)) (tOp rIxF (tVar 0) (tC (.int 0))))) { nx := fun _ H' => Q .non H', rt := Q } [some (.ref p), some (.ref b1), some (.ref q), y3, y4, y5, none, none, none] H2 := by
      intro L H2 y3 y4 y5 e2 hL hO hA
      tm_at "go"
      refine s_lenL hL ?_
      tm_at "go"
      refine s_ixF (pS (f1.trans e2)) hp0 ?_
      tm_at "go"
      have := k L H2 hO hA (f1.trans e2)
      rw [vN_len]
      have e3 : decide ((L.length : Int) < (m : Int)) = decide (L.length < m) := by
        rw [Bool.eq_iff_iff, decide_eq_true_eq, decide_eq_true_eq]
        omega
      rw [e3]
      exact this
    refine s_forR m (fun i σ H2 => ∃ (L : List Nat) (y3 y4 y5 : Option V), σ = [some (.ref p), some (.ref b1), some (.ref q), y3, y4, y5, none, none, none] ∧ Same H1 H2 ∧ H2 q = some (.lst (vN L)) ∧ Ord m rs L ∧ i ≤ L.length)
      (by omega) ⟨[], none, none, none, rfl, keep1, upd_same, ⟨.nil, fun _ h => (nomatch h), fun _ _ h => by simp at h⟩, Nat.zero_le _⟩ ?_ ?_ fun Q' h => ?_
    · rintro i σ H2 hi ⟨L, y3, y4, y5, rfl, e2, hL, hO, hiL⟩
      refine g_slot ?_
      show tSeq _ _ _ [some (.ref p), some (.ref b1), some (.ref q), some (.int (i : Nat)), y4, y5, none, none, none] H2
      tm_at "go"
      refine s_lenL hL ?_
      tm_at "go"
      rw [vN_len]
      refine s_forR m (fun t σ H3 => ∃ (L' : List Nat) (c : Bool) (y5 : Option V), σ = [some (.ref p), some (.ref b1), some (.ref q), some (.int (i : Nat)), some (.int (L.length : Nat)), y5, none, none, none] ∧ Same H1 H3 ∧ H3 q = some (.lst (vN L')) ∧ OrdAt m rs L t L' c)
        (by omega) ⟨L, false, _, rfl, e2, hL, ⟨hO, fun _ => ⟨rfl, fun t ht => absurd ht (Nat.not_lt_zero _)⟩, fun h => (by cases h), Nat.le_refl _⟩⟩ ?_ ?_ fun Q' h => ?_
      · rintro t σ H3 ht ⟨L', c, y5, rfl, e3, hL', M⟩
        refine g_slot ?_
        show tIfS _ _ _ _ [some (.ref p), some (.ref b1), some (.ref q), some (.int (i : Nat)), some (.int (L.length : Nat)), some (.int (t : Nat)), none, none, none] H3
        have stay : ∀ H4, Same H1 H4 → H4 q = some (.lst (vN L')) → ((∀ r ∈ rs, r.2 = t → ∀ n ∈ r.1, n ∈ L') → t ∈ L') → ∃ (L'' : List Nat) (c' : Bool) (y5' : Option V), ([some (.ref p), some (.ref b1), some (.ref q), some (.int (i : Nat)), some (.int (L.length : Nat)), some (.int (t : Nat)), none, none, none] : L2.St) = [some (.ref p), some (.ref b1), some (.ref q), some (.int (i : Nat)), some (.int (L.length : Nat)), y5', none, none, none] ∧ Same H1 H4 ∧ H4 q = some (.lst (vN L'')) ∧ OrdAt m rs L (t + 1) L'' c' := by
          intro H4 e4 hq4 hz
          refine ⟨L', c, _, rfl, e4, hq4, ⟨M.ord, fun hc => ?_, M.yes, M.le⟩⟩
          obtain ⟨q1, q2⟩ := M.no hc
          refine ⟨q1, fun t' ht' => ?_⟩
          by_cases hti : t' = t
          · rw [hti]
            exact hz
          · exact q2 t' (by omega)
        obtain ⟨b, ys, hb, hbG, hys⟩ := hacc t ht
        have hbH : H1 b = some (.lst ys) := r1.gh _ _ hbG
        have hylen := hys.length
        rw [List.length_map] at hylen
        tm_at "go"
        refine s_inL hL' ?_
        tm_at "go"
        refine s_itend (fun h1 => ?_) fun h1 => ?_
        · tm_at "go"
          refine s_allL (lotsFor rs t rs.length) (fun l => l.all fun n => decide (n ∈ L')) (e3 _ _ hbH) hylen (by rw [hylen]; have := lotsFor_len (rs := rs) (t := t) (n := rs.length); omega) (fun Q' h => s_op (s_var rfl (s_var rfl (s_ixL (e3 _ _ ‹H1 b1 = some (HO.lst acc)›) (by rw [atI_nat]; exact hb) h)))) (fun j v l hv hl H4 P e4 hP => ?_) fun H4 e4 => ?_
          · obtain ⟨d, hd1, hd2⟩ := hys.get hv
            rw [List.getElem?_map, hl] at hd1
            cases hd1
            obtain ⟨cc, rfl, hc1⟩ := rp_lot.mp hd2
            obtain ⟨r, hrm, _, rfl⟩ := mem_lotsFor.mp (List.mem_of_getElem? hl)
            refine g_slot ⟨rfl, ?_⟩
            show tCB _ _ [some (.ref p), some (.ref b1), some (.ref q), some (.int (i : Nat)), some (.int (L.length : Nat)), some (.int (t : Nat)), some (.ref cc), none, none] H4 P
            tm_at "go"
            refine s_allT r.1 (fun n => decide (n ∈ L')) (((f1.trans e3).trans e4) _ _ hc1) (by rw [vN_len]) (by rw [vN_len]; have := hnl r hrm; omega) (fun _ h => ⟨_, rfl, h⟩) (fun j w n hw hn H5 P' e5 hP' => ?_) fun H5 e5 => hP H5 e5
            rw [vN, List.getElem?_map, hn] at hw
            cases hw
            refine g_slot ⟨rfl, ?_⟩
            show tOp _ _ _ [some (.ref p), some (.ref b1), some (.ref q), some (.int (i : Nat)), some (.int (L.length : Nat)), some (.int (t : Nat)), some (.ref cc), none, some (.int (n : Int))] H5 P'
            tm_at "go"
            exact s_inL ((e4.trans e5) _ _ hL') (hP' _ (Same.refl _))
          · have hL4 := e4 _ _ hL'
            tm_at "go"
            refine s_ite (fun h2 => ?_) fun h2 => ?_
            · have hsub : ∀ r ∈ rs, r.2 = t → ∀ n ∈ r.1, n ∈ L' := fun r hr he n hn =>
                of_decide_eq_true (List.all_eq_true.mp (List.all_eq_true.mp h2 r.1 (mem_lotsFor.mpr ⟨r, hr, he, rfl⟩)) n hn)
              have O' := M.ord.snoc ht h1 hsub
              have hl' := O'.le
              rw [List.length_append] at hl'
              tm_at "go"
              refine s_tyL hL4 ?_
              tm_at "go"
              refine s_app hL4 (by rw [vN_len]; have : [t].length = 1 := rfl; omega) ?_
              have ev : vN L' ++ [V.int (t : Int)] = vN (L' ++ [t]) := by
                unfold vN
                rw [List.map_append]
                rfl
              rw [ev]
              refine ⟨L' ++ [t], true, _, rfl, (e3.trans e4).out hq1, upd_same, ⟨O', fun h => (by cases h), fun _ => ?_, ?_⟩⟩
              · rw [List.length_append]
                have := M.le
                have : [t].length = 1 := rfl
                omega
              · rw [List.length_append]
                have := M.le
                omega
            · tm_at "go"
              refine stay _ (e3.trans e4) hL4 fun hz => ?_
              have : ((lotsFor rs t rs.length).all fun l => l.all fun n => decide (n ∈ L')) = true := by
                rw [List.all_eq_true]
                intro l hl
                obtain ⟨r, hr, he, rfl⟩ := mem_lotsFor.mp hl
                rw [List.all_eq_true]
                intro n hn
                exact decide_eq_true (hz r hr he n hn)
              rw [this] at h2
              cases h2
        · refine iteF ?_
          tm_at "go"
          exact stay _ e3 hL' fun _ => h1
      · rintro σ H3 ⟨L', c, y5, rfl, e3, hL', M⟩
        tm_at "go"
        refine s_lenL hL' ?_
        tm_at "go"
        rw [vN_len]
        refine s_ited (fun h1 => ?_) fun h1 => ?_
        · refine s_brk ?_
          have hc : c = false := by
            cases c with
            | false => rfl
            | true =>
              have := M.yes rfl
              omega
          exact fin L' H3 _ _ _ e3 hL' M.ord fun t ht hz => (M.no hc).2 t ht hz
        · tm_at "go"
          have := M.le
          exact ⟨L', _, _, _, rfl, e3, hL', M.ord, by omega⟩
      · tm_at "go"
        refine s_ixF (pS (f1.trans e2)) hp0 ?_
        tm_at "go"
        exact h
    · rintro σ H2 ⟨L, y3, y4, y5, rfl, e2, hL, hO, hiL⟩
      exact fin L H2 _ _ _ e2 hL hO fun t ht _ => nodup_full hO.nd hO.lt hiL ht
    · tm_at "go"
      refine s_ixF (pS f2) hp0 ?_
      tm_at "go"
      exact h
end Un
namespace Un
open PySem L2 PySem.Spec PyProof.Rows
local macro_rules | `(tactic| tm_at "s") => `(tactic| with_reducible first
  | refine s_seq ?_ | (refine s_asg ?_; dsimp only [List.set]) | refine s_asgG ?_ | refine g_sub ?_ | refine s_sl ?_ | refine s_noPart ?_ | refine s_part ?_ | refine s_bm ?_ | refine s_lstRg ?_ | refine s_tupRg ?_ | refine s_rg1 ?_ | refine s_rg2 ?_  | refine s_isB ?_ | refine s_notB ?_ | refine s_next ?_ | refine s_ret ?_ | refine s_drop ?_ | refine s_ifs ?_ | refine s_brk ?_ | refine s_cont ?_ | refine s_retN ?_
  | refine s_var rfl ?_ | refine s_c ?_ | refine s_op ?_ | refine s_cons ?_ | refine s_nil ?_ | refine s_call ?_ | refine s_CB ?_ | refine s_un ?_
  | refine s_test ?_ | refine s_tB ?_ | refine s_k ?_ | refine s_not ?_ | refine s_and ?_ | refine s_or ?_ | refine s_notV ?_ | refine s_andV ?_ | refine s_orV ?_ | refine s_if ?_
  | refine s_add ?_ | refine s_sub ?_ | refine s_lt ?_ | refine s_le ?_ | refine s_gt ?_ | refine s_ge ?_ | refine s_eqI ?_ | refine s_neI ?_ | refine s_band ?_ | refine s_bor ?_ | refine s_neg ?_ | refine s_inv ?_
  | refine s_isN ?_ | refine s_notN ?_ | refine s_int1 ?_ | refine s_abs ?_ | refine s_min2 ?_ | refine s_max2 ?_
  | refine s_tup ?_ | refine s_lst ?_ | refine s_chain ?_ | refine s_truI ?_ | refine s_ki ?_ | refine s_sfld ?_ | refine s_fld ?_ | refine g_cons ?_ | refine g_nil ?_ | (refine g_name ?_; dsimp only [List.set]) | refine s_isD (by decide) (by assumption) ?_)
local macro_rules | `(tactic| tm_at "go") => `(tactic| repeat' (tm_at "s"))
variable {K : PySem.W.Frag}
theorem can_dN : ∀ ns : List Nat, PyData.canLayAll0 (dN ns) = true
  | [] => rfl
  | n :: ns => by
    show (PyData.canLay0 (.int (n : Int)) && PyData.canLayAll0 (dN ns)) = true
    rw [can_dN ns]
    rfl
theorem depth_dN : ∀ ns : List Nat, PyData.depthAll (dN ns) = 0
  | [] => rfl
  | n :: ns => by
    show max 0 (PyData.depthAll (dN ns)) = 0
    rw [depth_dN ns]
    rfl
theorem can_recs : ∀ rs : List Rec, PyData.canLayAll0 (rs.map recD) = true
  | [] => rfl
  | r :: rs => by
    show (PyData.canLay0 (recD r) && PyData.canLayAll0 (rs.map recD)) = true
    rw [can_recs rs]
    show ((PyData.canLayAll0 (dN r.1) && true) && true) = true
    rw [can_dN]
    rfl
theorem depth_recs : ∀ rs : List Rec, PyData.depthAll (rs.map recD) ≤ 2
  | [] => by show 0 ≤ 2; decide
  | r :: rs => by
    show max (PyData.depth (recD r)) (PyData.depthAll (rs.map recD)) ≤ 2
    have h1 := depth_recs rs
    have h2 : PyData.depth (recD r) = 2 := by
      show max (PyData.depthAll (dN r.1) + 1) (max 0 0) + 1 = 2
      rw [depth_dN]
      rfl
    omega
theorem can_parts {m : Nat} {gv gl : List Nat} {rs : List Rec} : PyData.canLayAll0 (partsD m gv rs gl) = true := by
  show (true && (PyData.canLayAll0 (dN gv) && (PyData.canLayAll0 (rs.map recD) && (PyData.canLayAll0 (dN gl) && true)))) = true
  rw [can_dN, can_dN, can_recs]
  rfl
theorem depth_parts {m : Nat} {gv gl : List Nat} {rs : List Rec} : PyData.depthAll (partsD m gv rs gl) ≤ 3 := by
  show max 0 (max (PyData.depthAll (dN gv) + 1) (max (PyData.depthAll (rs.map recD) + 1) (max (PyData.depthAll (dN gl) + 1) 0))) ≤ 3
  rw [depth_dN, depth_dN]
  have := depth_recs rs
  omega
theorem shaped_list {ds : List PyData} {n : Nat} (h1 : PyData.canLayAll0 ds = true) (h2 : PyData.depthAll ds ≤ n) (hn : n ≤ 63) : SeqAt.shaped (.list ds) = true := by
  show (PyData.canLayAll0 ds && decide (PyData.depthAll ds + 1 ≤ 64)) = true
  rw [h1, decide_eq_true (by omega)]
  rfl
theorem shaped_tup {ds : List PyData} {n : Nat} (h1 : PyData.canLayAll0 ds = true) (h2 : PyData.depthAll ds ≤ n) (hn : n ≤ 63) : SeqAt.shaped (.tuple ds) = true := by
  show (PyData.canLayAll0 ds && decide (PyData.depthAll ds + 1 ≤ 64)) = true
  rw [h1, decide_eq_true (by omega)]
  rfl
theorem idx_lt {L : List Nat} {i n : Nat} (h : n ∈ L.take i) : L.idxOf n < i := by
  have e : L.idxOf n = (L.take i).idxOf n := by
    conv => lhs; rw [← List.take_append_drop i L]
    rw [List.idxOf_append, if_pos h]
  rw [e]
  have := List.idxOf_lt_length_of_mem h
  rw [List.length_take] at this
  omega
theorem idx_self {L : List Nat} (nd : L.Nodup) {i t : Nat} (h : L[i]? = some t) : L.idxOf t = i := by
  obtain ⟨hi, e⟩ := List.getElem?_eq_some_iff.mp h
  rw [← e]
  exact List.Nodup.idxOf_getElem nd i hi
theorem idxOf_int (L : List Nat) (n : Nat) : (L.map fun n : Nat => (n : Int)).idxOf (n : Int) = L.idxOf n := by
  induction L with
  | nil => rfl
  | cons x L ih =>
    rw [List.map_cons, List.idxOf_cons, List.idxOf_cons, ih]
    have e : ((x : Int) == (n : Int)) = (x == n) := by
      rw [Bool.eq_iff_iff, beq_iff_eq, beq_iff_eq]
      omega
    rw [e]
theorem s_bmZ {r : V → List V → Hp → VK → Prop} {to : TE} {t : TA} {σ : L2.St} {H : Hp} {Q : VK} (h : to σ H fun x H1 => (∃ q xs, x = .ref q ∧ TupZ H1 q xs) ∧ t σ H1 fun xs H2 => r x xs H2 Q) : tBMZ r to t σ H Q := h
theorem s_sortedZ {H : Hp} {Q : VK} {a : Addr} {ns : List Nat} (h : TupZ H a (vN ns)) (q : ∀ (ls : List Nat) p, ls.Perm ns → ls.Pairwise (· ≤ ·) → H p = none → Q (.ref p) (upd H p (.lst (vN ls)))) : rSortedTQ K [.ref a] H Q := by
  refine ⟨a, ns.map fun n : Nat => (n : Int), rfl, by rw [← vN_ints]; exact h.sq, fun ms p h1 h2 hp => ?_⟩
  obtain ⟨ls, rfl, q1, q2⟩ := sorted_nat h1 h2
  rw [← vN_ints]
  exact q ls p q1 q2 hp
theorem pure__law_is_order (vs : List V) (H : Hp) (Q : VK) (E : XK) (h : sp__law_is_order vs H Q E) : t__law_is_order K { nx := fun _ H' => Q .non H', rt := Q } (start ["_law_parts", "_law_order", "_law_at", "_law_one", "_law_thing", "_law_lot"] vs) H := by
  obtain ⟨p, v, m, rs, rfl, hP, hm, hrl, hnl, ⟨L, hO, hA, hv⟩, k⟩ := h
  have hnl' : ∀ r ∈ rs, r.1.length ≤ 1000 := fun r hr => (hnl r hr).1
  obtain ⟨ps, a2, hp, hp0, hp2, hrs⟩ := id hP
  obtain ⟨_, xs, e, ha, hxl, hx⟩ := rp_recs hrs
  cases e
  have pS : ∀ {H1}, Same H H1 → H1 p = some (.lst ps) ∨ H1 p = some (.tup ps) := fun e => hp.imp (fun h => e _ _ h) fun h => e _ _ h
  show t__law_is_order K _ [some (.ref p), some v, none, none, none, none] H
  unfold t__law_is_order
  rcases hv with ⟨hl, rfl⟩ | ⟨hl, q, rfl, hq⟩
  · tm_at "go"
    refine s_ited (fun _ => ?_) fun h => absurd rfl h
    refine iteT ?_
    tm_at "go"
    refine s_ited (fun _ => ?_) fun h => absurd rfl h
    tm_at "go"
    refine ⟨p, m, rs, rfl, hP, hm, hrl, hnl', fun L1 H1 hO2 hA2 e1 => ?_⟩
    rw [hO2.len hA2 hO hA, decide_eq_true hl]
    exact k H1 e1
  · have ne : ¬ (V.ref q = V.non) := fun e => by cases e
    tm_at "go"
    refine s_ited (fun h => absurd h ne) fun _ => ?_
    tm_at "go"
    refine ⟨p, m, rs, rfl, hP, hm, hrl, hnl', fun L1 H1 hO2 hA2 e1 => ?_⟩
    rw [hO2.len hA2 hO hA, decide_eq_false hl]
    have hq1 := hq.up e1
    have hLl := hO.le
    tm_at "go"
    refine iteF ?_
    tm_at "go"
    refine ⟨.ref q, "tuple", .type "tuple", true, rfl, hq1.ty, (by unfold PySem.W.kitOne; rw [if_pos (by decide)]), ?_⟩
    tm_at "go"
    refine iteF ?_
    tm_at "go"
    refine s_allZ L (fun n => true) hq1 (by rw [vN_len]) (by rw [vN_len]; omega) (fun _ h => ⟨_, rfl, h⟩) (fun i x n hx hn H2 P e2 hP' => ?_) fun H2 e2 => ?_
    · rw [vN, List.getElem?_map, hn] at hx
      cases hx
      refine g_slot ⟨rfl, ?_⟩
      show tCall _ _ _ _ [some (.ref p), some (.ref q), none, some (.int (n : Int)), none, none] H2 P
      tm_at "go"
      refine s_ixF (pS (e1.trans e2)) hp0 ?_
      tm_at "go"
      refine ⟨_, .int (n : Int), m, rfl, Rp.int, fun H3 e3 => ?_⟩
      have : idx (.int (n : Int)) (m : Int) = true := idx_iff.mpr ⟨n, rfl, by have := hO.lt n (List.mem_of_getElem? hn); omega⟩
      rw [this]
      exact hP' H3 e3
    have f2 := e1.trans e2
    have hall : (L.all fun n => true) = true := by simp
    rw [hall]
    tm_at "go"
    refine iteF ?_
    tm_at "go"
    refine s_sortedZ (hq.up f2) fun ls p2 hls hls2 hp2' => ?_
    have f3 := f2.trans (L2.Same.new (o := .lst (vN ls)) hp2')
    have hls3 : ls = List.range m := by
      refine sorted_uniq (hls.trans ?_) hls2 (List.pairwise_lt_range.imp fun {x y} h => Nat.le_of_lt h)
      refine (List.perm_ext_iff_of_nodup hO.nd List.nodup_range).mpr fun n => ?_
      rw [List.mem_range]
      exact ⟨hO.lt n, fun hn => nodup_full hO.nd hO.lt (by omega) hn⟩
    subst hls3
    tm_at "go"
    refine s_ixF (pS f3) hp0 ?_
    tm_at "go"
    refine ⟨RgOk.small (by omega), fun p3 hp3 => ?_⟩
    have f4 := f3.trans (L2.Same.new (o := .lst (rgV 0 (m : Int))) hp3)
    refine ⟨.list (dN (List.range m)), .list (dN (List.range m)), ?_, ?_, by show plainL _ = true; exact plain_dN _, by show plainL _ = true; exact plain_dN _, shaped_list (can_dN _) (Nat.le_of_eq (depth_dN _)) (by decide), shaped_list (can_dN _) (Nat.le_of_eq (depth_dN _)) (by decide), ?_⟩
    · refine Rp.lst (xs := vN (List.range m)) ?_ (rpAll_dN.mpr rfl)
      rw [upd_ne (fun e => by rw [← e, upd_same] at hp3; cases hp3), upd_same]
    · refine Rp.lst upd_same ?_
      rw [rgV_nat]
      exact rpAll_dN.mpr rfl
    · rw [eqv_self _ (show plainD (.list (dN (List.range m))) = true from plain_dN _)]
      tm_at "go"
      refine iteF ?_
      tm_at "go"
      refine s_lcNR (fun _ => true) (fun t => L.idxOf t) m (by omega) (fun Q' h => ?_) (fun t ht H5 P N e5 h1 _ => ?_) fun p5 H5 hp5 e5 hp5' => ?_
      · tm_at "go"
        refine s_ixF (pS f4) hp0 ?_
        tm_at "go"
        exact h
      · refine g_slot ⟨rfl, ?_⟩
        have goal : tBMZ (rIndexZ K) (tVar 1) (tCons (tVar 4) tNil) [some (.ref p), some (.ref q), none, none, some (.int (t : Nat)), none] H5 P := ?_
        · exact goal
        have hq5 := hq.up (f4.trans e5)
        refine s_bmZ (s_var rfl ⟨⟨q, _, rfl, hq5⟩, ?_⟩)
        tm_at "go"
        refine ⟨q, L.map fun n : Nat => (n : Int), (t : Int), rfl, rfl, by rw [← vN_ints]; exact hq5.sq, List.mem_map.mpr ⟨t, nodup_full hO.nd hO.lt (by omega) ht, rfl⟩, ?_⟩
        rw [idxOf_int]
        exact h1 rfl _ (.refl _)
      · rw [List.filter_eq_self.mpr (fun _ _ => rfl)] at hp5'
        have f5 := f4.trans e5

        tm_at "go"
        refine s_allT rs (fun r => true) (f5 _ _ ha) hxl (by omega) (fun Q' h => s_op (s_var rfl (s_c (s_ixF (pS f5) hp2 h)))) (fun i x r hxi hri H6 P e6 hP6 => ?_) fun H6 e6 => ?_
        · obtain ⟨r', b, hr', rfl, cc, hb, hc⟩ := hx i x hxi
          rw [hri] at hr'
          cases hr'
          have f6 := f5.trans e6
          refine g_tup (f6 _ _ hb) rfl ?_
          refine g_cons (g_slot (g_cons (g_slot (g_nil ⟨rfl, ?_⟩))))
          show tCB _ _ [some (.ref p), some (.ref q), some (.ref p5), none, some (.int (r.2 : Int)), some (.ref cc)] H6 P
          have hr := List.mem_of_getElem? hri
          obtain ⟨hrl1, hrm⟩ := hnl r hr
          tm_at "go"
          refine s_allT r.1 (fun n => true) (f6 _ _ hc) (by rw [vN_len]) (by rw [vN_len]; omega) (fun _ h => ⟨_, rfl, h⟩) (fun j w n hw hn H7 P' e7 hP7 => ?_) fun H7 e7 => ?_
          · rw [vN, List.getElem?_map, hn] at hw
            cases hw
            refine g_slot ⟨rfl, ?_⟩
            show tOp _ _ _ [some (.ref p), some (.ref q), some (.ref p5), some (.int (n : Int)), some (.int (r.2 : Int)), some (.ref cc)] H7 P'
            have hp7 := (e6.trans e7) _ _ hp5'
            obtain ⟨i2, hi2⟩ := List.mem_iff_getElem?.mp (nodup_full hO.nd hO.lt (by omega) hrm)
            have hnt := hO.beh i2 r.2 hi2 r hr rfl n (List.mem_of_getElem? hn)
            have hnm : n < m := hO.lt n (List.mem_of_mem_take hnt)
            have hlt := idx_lt hnt
            have hself := idx_self hO.nd hi2
            tm_at "go"
            refine s_ixL hp7 (v := .int (L.idxOf n : Nat)) (by rw [atI_nat, vN, List.getElem?_map, List.getElem?_map, List.getElem?_range hnm]; rfl) ?_
            tm_at "go"
            refine s_ixL hp7 (v := .int (L.idxOf r.2 : Nat)) (by rw [atI_nat, vN, List.getElem?_map, List.getElem?_map, List.getElem?_range hrm]; rfl) ?_
            tm_at "go"
            rw [decide_eq_true (by omega)]
            exact hP7 _ (.refl _)
          · rw [show (r.1.all fun n => true) = true by simp]
            exact hP6 H7 e7
        · tm_at "go"
          rw [show (rs.all fun n => true) = true by simp]
          exact k H6 (f5.trans e6)
end Un
namespace Un
open PySem L2 PySem.Spec PyProof.Rows
local macro_rules | `(tactic| tm_at "s") => `(tactic| with_reducible first
  | refine s_seq ?_ | (refine s_asg ?_; dsimp only [List.set]) | refine s_asgG ?_ | refine g_sub ?_ | refine s_sl ?_ | refine s_noPart ?_ | refine s_part ?_ | refine s_bm ?_ | refine s_lstRg ?_ | refine s_tupRg ?_ | refine s_rg1 ?_ | refine s_rg2 ?_  | refine s_isB ?_ | refine s_notB ?_ | refine s_next ?_ | refine s_ret ?_ | refine s_drop ?_ | refine s_ifs ?_ | refine s_brk ?_ | refine s_cont ?_ | refine s_retN ?_
  | refine s_var rfl ?_ | refine s_c ?_ | refine s_op ?_ | refine s_cons ?_ | refine s_nil ?_ | refine s_call ?_ | refine s_CB ?_ | refine s_un ?_
  | refine s_test ?_ | refine s_tB ?_ | refine s_k ?_ | refine s_not ?_ | refine s_and ?_ | refine s_or ?_ | refine s_notV ?_ | refine s_andV ?_ | refine s_orV ?_ | refine s_if ?_
  | refine s_add ?_ | refine s_sub ?_ | refine s_lt ?_ | refine s_le ?_ | refine s_gt ?_ | refine s_ge ?_ | refine s_eqI ?_ | refine s_neI ?_ | refine s_band ?_ | refine s_bor ?_ | refine s_neg ?_ | refine s_inv ?_
  | refine s_isN ?_ | refine s_notN ?_ | refine s_int1 ?_ | refine s_abs ?_ | refine s_min2 ?_ | refine s_max2 ?_
  | refine s_tup ?_ | refine s_lst ?_ | refine s_chain ?_ | refine s_truI ?_ | refine s_ki ?_ | refine s_sfld ?_ | refine s_fld ?_ | refine g_cons ?_ | refine g_nil ?_ | (refine g_name ?_; dsimp only [List.set]) | refine s_isD (by decide) (by assumption) ?_)
local macro_rules | `(tactic| tm_at "go") => `(tactic| repeat' (tm_at "s"))
variable {K : PySem.W.Frag} {C : Addr}
theorem cook_meth {v0 v1 v2 v3 : V} : (cookF v0 v1 v2 v3).lookup ("many" : Str) = none ∧ (cookF v0 v1 v2 v3).lookup ("given" : Str) = none ∧ (cookF v0 v1 v2 v3).lookup ("recipes" : Str) = none ∧ (cookF v0 v1 v2 v3).lookup ("goals" : Str) = none ∧ (cookF v0 v1 v2 v3).lookup ("parts" : Str) = none := by
  have f : ∀ s : Str, (s == ("kept_many" : Str)) = false → (s == ("kept_given" : Str)) = false → (s == ("kept_recipes" : Str)) = false → (s == ("kept_goals" : Str)) = false → (cookF v0 v1 v2 v3).lookup s = none := fun s h1 h2 h3 h4 => by
    simp [cookF, List.lookup, h1, h2, h3, h4]
  refine ⟨f _ ?_ ?_ ?_ ?_, f _ ?_ ?_ ?_ ?_, f _ ?_ ?_ ?_ ?_, f _ ?_ ?_ ?_ ?_, f _ ?_ ?_ ?_ ?_⟩ <;> decide +kernel
theorem s_meth {C : Addr} {m : Str} {sp : Sp} {E : XK} {ta : TE} {σ : L2.St} {H : Hp} {Q : VK} (h : ta σ H fun x H1 => ∃ a dx fs, x = .ref a ∧ H1 a = some (.ins C dx fs) ∧ fs.lookup m = none ∧ tNil σ H1 fun vs H2 => sp (x :: (vs ++ [])) H2 Q E) : tMeth C m sp [] E ta tNil σ H Q := h
theorem cook_get {f m : Str} {b dx : Addr} {v0 v1 v2 v3 v : V} {σ : L2.St} {H : Hp} {Q : VK} {i : Nat} (hi : σ[i]? = some (some (.ref b))) (hb : H b = some (.ins C dx (cookF v0 v1 v2 v3))) (hm : (cookF v0 v1 v2 v3).lookup m = none) (hv : (cookF v0 v1 v2 v3).lookup f = some v) (q : Q v H) :
    tMeth C m (sp_fieldC C f) [] E0 (tVar i) tNil σ H Q := ⟨.ref b, hi, b, dx, _, rfl, hb, hm, b, dx, v0, v1, v2, v3, v, rfl, hb, hv, q⟩
theorem pure__law_keeps (vs : List V) (H : Hp) (Q : VK) (E : XK) (h : sp__law_keeps C vs H Q E) : t__law_keeps K C { nx := fun _ H' => Q .non H', rt := Q } (start ["_law_book", "_law_parts", "_law_recipe"] vs) H := by
  obtain ⟨b, dx, q, v0, v1, v2, v3, m, gv, rs, gl, xs, rfl, hb, good, hvs, hq, hxs, k⟩ := h
  obtain ⟨c1, c2, c3, c4, _⟩ := cook_meth (v0 := v0) (v1 := v1) (v2 := v2) (v3 := v3)
  obtain ⟨_, _, e0, r0, hr⟩ := rpAll_cons.mp hvs
  cases e0
  obtain ⟨_, _, e0, r1, hr⟩ := rpAll_cons.mp hr
  cases e0
  obtain ⟨_, _, e0, r2, hr⟩ := rpAll_cons.mp hr
  cases e0
  obtain ⟨_, _, e0, r3, hr⟩ := rpAll_cons.mp hr
  cases e0
  obtain rfl := rp_int.mp r0
  obtain ⟨l1, l2, l3⟩ := good.lens
  obtain ⟨gl', egl, hgl, hgl0, _⟩ := id good.glOk
  obtain rfl := lotD_inj egl
  obtain ⟨ra, ys, rfl, hra, hyl, hy⟩ := rp_recs r2
  have m40 := good.m40
  show t__law_keeps K C _ [some (.ref b), some (.ref q), none] H
  unfold t__law_keeps
  refine s_seq (s_ifs (s_test (s_op (s_lst ?_))))
  refine s_cons (cook_get rfl hb c1 cookF_many (s_cons (cook_get rfl hb c2 cookF_given (s_cons (cook_get rfl hb c3 cookF_recipes (s_cons (cook_get rfl hb c4 cookF_goals (s_nil ⟨by rw [sizeLine_eq]; simp, fun p2 hp2 => ?_⟩))))))))
  have e2 : Same H (upd H p2 (.lst [.int (m : Int), v1, .ref ra, v3])) := L2.Same.new hp2
  refine s_CB (s_cons (s_var rfl (s_nil ?_)))
  refine ⟨q, xs, rfl, hq.imp (fun h => e2 _ _ h) fun h => e2 _ _ h, fun p3 hp3 => ?_⟩
  have e3 := e2.trans (L2.Same.new (o := .lst xs) hp3)
  have hp32 : p2 ≠ p3 := fun e => by rw [← e, upd_same] at hp3; cases hp3
  refine ⟨.list (partsD m gv rs gl), .list (partsD m gv rs gl), Rp.lst (by rw [upd_ne hp32, upd_same]) (hvs.up e3), Rp.lst upd_same (hxs.up e3), plain_parts, plain_parts, shaped_list can_parts depth_parts (by decide), shaped_list can_parts depth_parts (by decide), ?_⟩
  rw [eqv_self _ (show plainD (.list (partsD m gv rs gl)) = true from plain_parts)]
  have hb3 := e3 _ _ hb
  tm_at "go"
  refine iteF ?_
  tm_at "go"
  refine cook_get rfl hb3 c1 cookF_many ?_
  tm_at "go"
  refine ⟨_, .int (m : Int), 41, rfl, Rp.int, fun H4 e4 => ?_⟩
  have f4 := e3.trans e4
  rw [show idx (.int (m : Int)) 41 = true from idx_iff.mpr ⟨m, rfl, by omega⟩]
  tm_at "go"
  refine iteF ?_
  tm_at "go"
  refine cook_get rfl (f4 _ _ hb) c2 cookF_given ?_
  tm_at "go"
  refine ⟨_, lotD gv, 40, rfl, r1.up f4, (lot_tz l1).z (by decide), fun H5 e5 => ?_⟩
  have f5 := f4.trans e5
  rw [show isLot (lotD gv) 40 = true from isLot_iff.mpr ⟨gv, rfl, good.gvOk.1, fun n hn => by have := good.gvOk.2 n hn; omega⟩]
  tm_at "go"
  refine iteF ?_
  tm_at "go"
  refine cook_get rfl (f5 _ _ hb) c4 cookF_goals ?_
  tm_at "go"
  refine ⟨_, lotD gl, 40, rfl, r3.up f5, (lot_tz l2).z (by decide), fun H6 e6 => ?_⟩
  have f6 := f5.trans e6
  rw [show isLot (lotD gl) 40 = true from isLot_iff.mpr ⟨gl, rfl, hgl.1, fun n hn => by have := hgl.2 n hn; omega⟩]
  tm_at "go"
  refine iteF ?_
  tm_at "go"
  refine s_allT rs (fun r => true) (f6 _ _ hra) hyl (by have := good.rsl; omega) (fun Q' h => cook_get rfl (f6 _ _ hb) c3 cookF_recipes h) (fun i x r hx hri H7 P e7 hP => ?_) fun H7 e7 => ?_
  · obtain ⟨r', b', hr', rfl, cc, hb', hc⟩ := hy i x hx
    rw [hri] at hr'
    cases hr'
    have f7 := f6.trans e7
    have hrm := List.mem_of_getElem? hri
    obtain ⟨n1, n2, n3, n4, n5⟩ := good.rsOk r hrm
    refine g_slot ⟨rfl, ?_⟩
    show tCall _ _ _ _ [some (.ref b), some (.ref q), some (.ref b')] H7 P
    tm_at "go"
    refine ⟨by rw [sizeLine_eq]; decide, fun z hz => ?_⟩
    have f8 := f7.trans (L2.Same.new (o := .tup []) hz)
    tm_at "go"
    refine ⟨_, recD r, 40, z, [], rfl, upd_same, Rp.tup (f8 _ _ hb') (.cons (rp_lot.mpr ⟨cc, rfl, f8 _ _ hc⟩) (.cons Rp.int .nil)), rec_z (by have := l3 r hrm; omega), fun H8 e8 => ?_⟩
    rw [decP_true (show RecOk 40 [] (recD r) from ⟨r, rfl, n1, ⟨n2.1, fun n hn => by have := n2.2 n hn; omega⟩, by omega, n4, by simp⟩)]
    exact hP H8 ((L2.Same.new hz).trans e8)
  · tm_at "go"
    rw [show (rs.all fun r => true) = true by simp]
    exact k H7 (f6.trans e7)
end Un
/-! Cookeries compared, built by the law. -/
namespace Un
open PySem L2 PySem.Spec PyProof.Rows
def sp_Cookery_eq (K : PySem.W.Frag) (C : Addr) : Sp := fun vs H Q _ => ∃ (b dx : Addr) (v0 v1 v2 v3 y : V), vs = [.ref b, y] ∧ H b = some (.ins C dx (cookF v0 v1 v2 v3)) ∧
  ((∃ t, TyX K H y t ∧ PySem.W.kitOne K t (.ref C) = some false ∧ Q (.bl false) H) ∨
   ∃ (c dy : Addr) (w0 w1 w2 w3 : V) (ds es : List PyData), y = .ref c ∧ H c = some (.ins C dy (cookF w0 w1 w2 w3)) ∧ RpAll H ds [v0, v1, v2, v3] ∧ RpAll H es [w0, w1, w2, w3] ∧ plainL ds = true ∧ plainL es = true ∧ SeqAt.shaped (.tuple ds) = true ∧ SeqAt.shaped (.tuple es) = true ∧
     ∀ H', Same H H' → Q (.bl (PyData.eqvAll ds es)) H')
def sp__law_built (C : Addr) : Sp := fun vs H Q _ => ∃ (q : Addr) (v0 v1 v2 v3 : V) (d0 d1 d2 d3 : PyData), vs = [.ref q] ∧ (H q = some (.lst [v0, v1, v2, v3]) ∨ H q = some (.tup [v0, v1, v2, v3])) ∧ Rp H d0 v0 ∧ Rp H d1 v1 ∧ Rp H d2 v2 ∧ Rp H d3 v3 ∧ lenD d2 ≤ 1000 ∧
  (∀ t, badP d0 d1 d2 d3 = some t → ∀ p H', H p = none → Same H H' → H' p = some (.tup [.str t, .non]) → Q (.ref p) H') ∧
  (badP d0 d1 d2 d3 = none → ∀ p b dx H', H b = none → Same H H' → H' b = some (.ins C dx (cookF v0 v1 v2 v3)) → H' p = some (.tup [.non, .ref b]) → Q (.ref p) H')
end Un
namespace Un
open PySem L2 PySem.Spec PyProof.Rows
/-- Cookery.__eq__: 0 self, 1 other -/
def t_Cookery_eq (K : PySem.W.Frag) (C_Cookery : Addr) : TS :=
  (tRet (tAndV (tCB (rIsC K) (tCons (tVar 1) (tCons (tC (.ref C_Cookery)) tNil))) (tOp rEqP (tMeth C_Cookery "parts" (sp_parts C_Cookery) [] E0 (tVar 0) tNil) (tMeth C_Cookery "parts" (sp_parts C_Cookery) [] E0 (tVar 1) tNil))))
/-- _law_built: 0 _law_parts, 1 _law_refused, 2 _law_book, 3 e -/
def t__law_built (K : PySem.W.Frag) (C_Cookery C_NoCookery : Addr) (E : XK) : TS :=
  (tSeq (tAsg (tC .non) (gName 1))
    (tSeq (tAsg (tC .non) (gName 2))
    (tSeq (fun D σ H => (tAsg (tMakeS C_Cookery (sp_Cookery_init C_Cookery C_NoCookery) (WE (wAs K (.ref C_NoCookery) 3 (fun a cls d => tAsg (tByPart C_NoCookery a cls d (tVar 3)) (gName 1)) (fun cls d _ H => E cls d H) D)) (tCons (tOp rIxF (tVar 0) (tC (.int 0))) (tCons (tOp rIxF (tVar 0) (tC (.int 1))) (tCons (tOp rIxF (tVar 0) (tC (.int 2))) (tCons (tOp rIxF (tVar 0) (tC (.int 3))) tNil))))) (gName 2)) D σ H)
    (tRet (tTup (tCons (tVar 1) (tCons (tVar 2) tNil)))))))
end Un
namespace Un
open PySem L2 PySem.Spec PyProof.Rows
local macro_rules | `(tactic| tm_at "s") => `(tactic| with_reducible first
  | refine s_seq ?_ | (refine s_asg ?_; dsimp only [List.set]) | refine s_asgG ?_ | refine g_sub ?_ | refine s_sl ?_ | refine s_noPart ?_ | refine s_part ?_ | refine s_bm ?_ | refine s_lstRg ?_ | refine s_tupRg ?_ | refine s_rg1 ?_ | refine s_rg2 ?_  | refine s_isB ?_ | refine s_notB ?_ | refine s_next ?_ | refine s_ret ?_ | refine s_drop ?_ | refine s_ifs ?_ | refine s_brk ?_ | refine s_cont ?_ | refine s_retN ?_
  | refine s_var rfl ?_ | refine s_c ?_ | refine s_op ?_ | refine s_cons ?_ | refine s_nil ?_ | refine s_call ?_ | refine s_CB ?_ | refine s_un ?_
  | refine s_test ?_ | refine s_tB ?_ | refine s_k ?_ | refine s_not ?_ | refine s_and ?_ | refine s_or ?_ | refine s_notV ?_ | refine s_andV ?_ | refine s_orV ?_ | refine s_if ?_
  | refine s_add ?_ | refine s_sub ?_ | refine s_lt ?_ | refine s_le ?_ | refine s_gt ?_ | refine s_ge ?_ | refine s_eqI ?_ | refine s_neI ?_ | refine s_band ?_ | refine s_bor ?_ | refine s_neg ?_ | refine s_inv ?_
  | refine s_isN ?_ | refine s_notN ?_ | refine s_int1 ?_ | refine s_abs ?_ | refine s_min2 ?_ | refine s_max2 ?_
  | refine s_tup ?_ | refine s_lst ?_ | refine s_chain ?_ | refine s_truI ?_ | refine s_ki ?_ | refine s_sfld ?_ | refine s_fld ?_ | refine g_cons ?_ | refine g_nil ?_ | (refine g_name ?_; dsimp only [List.set]) | refine s_isD (by decide) (by assumption) ?_)
local macro_rules | `(tactic| tm_at "go") => `(tactic| repeat' (tm_at "s"))
variable {K : PySem.W.Frag} {C CE : Addr}
theorem pure_Cookery_eq (T : InsTxt K C) (vs : List V) (H : Hp) (Q : VK) (E : XK) (h : sp_Cookery_eq K C vs H Q E) : t_Cookery_eq K C { nx := fun _ H' => Q .non H', rt := Q } (start ["self", "other"] vs) H := by
  obtain ⟨b, dx, v0, v1, v2, v3, y, rfl, hb, hy⟩ := h
  show t_Cookery_eq K C _ [some (.ref b), some y] H
  unfold t_Cookery_eq
  tm_at "go"
  rcases hy with ⟨t, h1, h2, q⟩ | ⟨c, dy, w0, w1, w2, w3, ds, es, rfl, hc, hds, hes, p1, p2, s1, s2, k⟩
  · refine ⟨y, C, t, false, rfl, h1, h2, ?_⟩
    tm_at "go"
    exact iteF q
  · refine ⟨.ref c, C, .ref C, true, rfl, T.ty hc, (by unfold PySem.W.kitOne; rw [if_pos (beq_self_eq_true _)]), ?_⟩
    obtain ⟨_, _, _, _, n5⟩ := cook_meth (v0 := v0) (v1 := v1) (v2 := v2) (v3 := v3)
    obtain ⟨_, _, _, _, n6⟩ := cook_meth (v0 := w0) (v1 := w1) (v2 := w2) (v3 := w3)
    tm_at "go"
    refine iteT ?_
    refine s_op (s_meth (s_var rfl ⟨b, dx, _, rfl, hb, n5, s_nil ⟨b, dx, v0, v1, v2, v3, rfl, hb, fun q1 hq1 => ?_⟩⟩))
    have e1 : Same H (upd H q1 (.tup [v0, v1, v2, v3])) := L2.Same.new hq1
    refine s_meth (s_var rfl ⟨c, dy, _, rfl, e1 _ _ hc, n6, s_nil ⟨c, dy, w0, w1, w2, w3, rfl, e1 _ _ hc, fun q2 hq2 => ?_⟩⟩)
    have e2 := e1.trans (L2.Same.new (o := .tup [w0, w1, w2, w3]) hq2)
    have hne : q1 ≠ q2 := fun e => by rw [← e, upd_same] at hq2; cases hq2
    exact ⟨.tuple ds, .tuple es, Rp.tup (by rw [upd_ne hne, upd_same]) (hds.up e2), Rp.tup upd_same (hes.up e2), p1, p2, s1, s2, k _ e2⟩
theorem pure__law_built (hE : PySem.W.exmOne K (.ref CE) (.ref CE) = some true) (vs : List V) (H : Hp) (Q : VK) (E : XK) (h : sp__law_built C vs H Q E) : t__law_built K C CE E { nx := fun _ H' => Q .non H', rt := Q } (start ["_law_parts", "_law_refused", "_law_book", "e"] vs) H := by
  obtain ⟨q, v0, v1, v2, v3, d0, d1, d2, d3, rfl, hq, r0, r1, r2, r3, hl, kB, kG⟩ := h
  show t__law_built K C CE E _ [some (.ref q), none, none, none] H
  unfold t__law_built
  tm_at "go"
  show tCons _ _ [some (.ref q), some .non, some .non, none] H _
  tm_at "go"
  refine s_ixF hq (v := v0) rfl ?_
  tm_at "go"
  refine s_ixF hq (v := v1) rfl ?_
  tm_at "go"
  refine s_ixF hq (v := v2) rfl ?_
  tm_at "go"
  refine s_ixF hq (v := v3) rfl ?_
  tm_at "go"
  intro x dx hx hdx hne
  have e0 : Same H (upd (upd H dx (.own x)) x (.ins C dx [])) := (L2.Same.new hdx).trans (L2.Same.new (by rw [upd_ne (Ne.symm hne)]; exact hx))
  refine ⟨x, dx, v0, v1, v2, v3, d0, d1, d2, d3, rfl, upd_same, r0.up e0, r1.up e0, r2.up e0, r3.up e0, hl, fun t ht H' d e' hd => ?_, fun hn H' hk hp => ⟨rfl, ?_⟩⟩
  · refine ⟨true, hE, fun _ a ha => ?_, fun h => nomatch h⟩
    have e2 := (e0.trans e').trans (L2.Same.new (o := .xd [(("part" : Str), V.str t)]) hd)
    refine s_asg ⟨.ref a, rfl, rfl, rfl, d, .str t, rfl, upd_same, ?_⟩
    dsimp only [List.set]
    tm_at "go"
    refine ⟨by rw [sizeLine_eq]; simp, fun p hp => ?_⟩
    exact kB t ht p _ (e2.free hp) (e2.trans (L2.Same.new hp)) upd_same
  · have e2 : Same H H' := fun b o hb => hk b o (ne_of_none hb hx) (e0 _ _ hb)
    dsimp only [List.set]
    tm_at "go"
    refine ⟨by rw [sizeLine_eq]; simp, fun p hp2 => ?_⟩
    have hxp : x ≠ p := fun e => by rw [← e, hp] at hp2; cases hp2
    exact kG hn p x dx _ hx (e2.trans (L2.Same.new hp2)) (by rw [upd_ne hxp]; exact hp) upd_same
end Un
/-! The law. -/
namespace Un
open PySem L2 PySem.Spec PyProof.Rows
/-- Map(2, ((0, 1),), (1,)) -/
def sp_Map_init (C : Addr) : Sp := fun vs H Q _ => ∃ (p dx a g : Addr), vs = [.ref p, .int 2, .ref a, .ref g] ∧ H p = some (.ins C dx []) ∧ Rp H (.tuple [.tuple [.int 0, .int 1]]) (.ref a) ∧ Rp H (.tuple [.int 1]) (.ref g) ∧
  ∀ fs H', (∀ b o, b ≠ p → H b = some o → H' b = some o) → H' p = some (.ins C dx fs) → Q .non H'
def sp_law (K : PySem.W.Frag) : Sp := fun vs H Q _ => ∃ (b : Addr) (ns : List Int), vs = [.ref b] ∧ SqL K H b (ns.map V.int) ∧ ∀ H', Q (.bl true) H'
/-- what the classes' text says, for the law -/
structure LawTxt (K : PySem.W.Frag) (C CM : Addr) : Prop where
  it : InsTxt K C
  im : InsTxt K CM
  n1 : PySem.W.notFirst K C (.type "tuple") = true
  k1 : PySem.W.kitOne K (.type "tuple") (.ref C) = some false
  n2 : PySem.W.notFirst K C (.type "NoneType") = true
  k2 : PySem.W.kitOne K (.type "NoneType") (.ref C) = some false
  n3 : PySem.W.notFirst K C (.ref CM) = true
  k3 : PySem.W.kitOne K (.ref CM) (.ref C) = some false
theorem Good.bad {m : Nat} {gv gl : List Nat} {rs : List Rec} (k : Good m gv rs gl) : badP (.int (m : Int)) (lotD gv) (recsD rs) (lotD gl) = none := by
  have h0 : btw (.int (m : Int)) 2 40 = true := by
    show (decide (2 ≤ (m : Int)) && decide ((m : Int) ≤ 40)) = true
    have := k.m2
    have := k.m40
    rw [decide_eq_true (by omega), decide_eq_true (by omega)]
    rfl
  have h1 : isLot (lotD gv) (toI (.int (m : Int))) = true := isLot_iff.mpr ⟨gv, rfl, k.gvOk⟩
  have h2 : decP (RecsOk (toI (.int (m : Int))) gv (recsD rs)) = true := decP_true ⟨rs, rfl, k.rsl, k.rsOk⟩
  have h3 : decP (GoalsOk (toI (.int (m : Int))) gv rs (lotD gl)) = true := decP_true k.glOk
  unfold badP
  rw [toNs_lot, toRs_recs, h0, h1, h2, h3]
  rfl
end Un
/-! Maps: what their functions promise. -/
namespace Un
open PySem L2 PySem.Spec PyProof.Rows
def sp_lot_of : Sp := fun vs H Q _ => ∃ M : Nat, vs = [.int (M : Int)] ∧ M < 2 ^ 1000 ∧ ∀ (ns : List Nat) q H', ns.Pairwise (· < ·) → (∀ i, i ∈ ns ↔ M.testBit i = true) → H q = none → Same H H' → H' q = some (.tup (vN ns)) → Q (.ref q) H'
/-- while i > 0 -/
theorem s_whileGt {n : Nat} {σ : L2.St} {H : Hp} {D : Ends} {tb : TS} (Pv : L2.St → Hp → Prop) (μ : L2.St → Hp → Nat) (h0 : Pv σ H)
    (hs : ∀ σ H, Pv σ H → ∃ i : Int, σ[n]? = some (some (.int i)) ∧ (0 < i → tb { D with nx := fun σ' H' => Pv σ' H' ∧ μ σ' H' < μ σ H, ct := fun σ' H' => Pv σ' H' ∧ μ σ' H' < μ σ H, bk := D.nx } σ H) ∧ (¬ 0 < i → D.nx σ H)) :
    tWhile (tTest (tOp rGtI (tVar n) (tC (.int 0)))) tb D σ H := by
  refine while_by Pv μ h0 (fun σ H p => ?_) ?_
  · obtain ⟨i, h1, h2, h3⟩ := hs σ H p
    refine ⟨_, h1, i, 0, rfl, rfl, _, rfl, ?_⟩
    by_cases e : 0 < i
    · rw [decide_eq_true e]
      exact iteT (h2 e)
    · rw [decide_eq_false e]
      exact iteF (h3 e)
  · rintro σ H Q Q' hq ⟨v, h1, i, j, e1, e2, b, e3, h3⟩
    exact ⟨v, h1, i, j, e1, e2, b, e3, hq _ _ h3⟩
theorem s_aug {n : Nat} {i j : Int} {D : Ends} {σ : L2.St} {H : Hp} (h : σ[n]? = some (some (.int i))) (q : D.nx (σ.set n (some (.int (i + j)))) H) : tAug n (tC (.int j)) (ipI fun i j => i + j) D σ H := ⟨_, h, i, j, rfl, rfl, q⟩
end Un
namespace Un
open PySem L2 PySem.Spec PyProof.Rows
/-- lot_of: 0 mask, 1 found, 2 item -/
def t_lot_of (K : PySem.W.Frag) : TS :=
  (tSeq (tAsg (tLst tNil) (gName 1))
    (tSeq (tAsg (tC (.int 0)) (gName 2))
    (tSeq (tWhile (tTest (tOp rGtI (tVar 0) (tC (.int 0))))
    (tSeq (tIfS (tTruI (tOp rAndI (tVar 0) (tC (.int 1)))) (tDrop (tBM K "list" rAppend (tVar 1) (tCons (tVar 2) tNil))) tNext)
    (tSeq (tAsg (tOp rShrI (tVar 0) (tC (.int 1))) (gName 0))
    (tAug 2 (tC (.int 1)) (ipI fun i j => i + j)))))
    (tRet (tCB rTupF (tCons (tVar 1) tNil))))))
end Un
namespace Un
open PySem L2 PySem.Spec PyProof.Rows
local macro_rules | `(tactic| tm_at "s") => `(tactic| with_reducible first
  | refine s_seq ?_ | (refine s_asg ?_; dsimp only [List.set]) | refine s_asgG ?_ | refine g_sub ?_ | refine s_sl ?_ | refine s_noPart ?_ | refine s_part ?_ | refine s_bm ?_ | refine s_lstRg ?_ | refine s_tupRg ?_ | refine s_rg1 ?_ | refine s_rg2 ?_  | refine s_isB ?_ | refine s_notB ?_ | refine s_next ?_ | refine s_ret ?_ | refine s_drop ?_ | refine s_ifs ?_ | refine s_brk ?_ | refine s_cont ?_ | refine s_retN ?_
  | refine s_var rfl ?_ | refine s_c ?_ | refine s_op ?_ | refine s_cons ?_ | refine s_nil ?_ | refine s_call ?_ | refine s_CB ?_ | refine s_un ?_
  | refine s_test ?_ | refine s_tB ?_ | refine s_k ?_ | refine s_not ?_ | refine s_and ?_ | refine s_or ?_ | refine s_notV ?_ | refine s_andV ?_ | refine s_orV ?_ | refine s_if ?_
  | refine s_add ?_ | refine s_sub ?_ | refine s_lt ?_ | refine s_le ?_ | refine s_gt ?_ | refine s_ge ?_ | refine s_eqI ?_ | refine s_neI ?_ | refine s_band ?_ | refine s_bor ?_ | refine s_neg ?_ | refine s_inv ?_
  | refine s_isN ?_ | refine s_notN ?_ | refine s_int1 ?_ | refine s_abs ?_ | refine s_min2 ?_ | refine s_max2 ?_
  | refine s_tup ?_ | refine s_lst ?_ | refine s_chain ?_ | refine s_truI ?_ | refine s_ki ?_ | refine s_sfld ?_ | refine s_fld ?_ | refine g_cons ?_ | refine g_nil ?_ | (refine g_name ?_; dsimp only [List.set]) | refine s_isD (by decide) (by assumption) ?_)
local macro_rules | `(tactic| tm_at "go") => `(tactic| repeat' (tm_at "s"))
variable {K : PySem.W.Frag}
theorem shr_succ (M k : Nat) : ((M >>> k : Nat) : Int) / 2 ^ (1 : Int).toNat = ((M >>> (k + 1) : Nat) : Int) := by
  rw [Nat.shiftRight_succ]
  show ((M >>> k : Nat) : Int) / (2 ^ 1 : Int) = ((M >>> k / 2 : Nat) : Int)
  rw [Int.natCast_ediv]
  rfl
theorem bits_succ (M k : Nat) : (List.range (k + 1)).filter (fun i => M.testBit i) = (List.range k).filter (fun i => M.testBit i) ++ (if M.testBit k = true then [k] else []) := by
  rw [List.range_succ, List.filter_append]
  congr 1
  by_cases h : M.testBit k = true
  · rw [if_pos h]
    simp [h]
  · rw [if_neg h]
    simp [h]
theorem pure_lot_of (vs : List V) (H : Hp) (Q : VK) (E : XK) (h : sp_lot_of vs H Q E) : t_lot_of K { nx := fun _ H' => Q .non H', rt := Q } (start ["mask", "found", "item"] vs) H := by
  obtain ⟨M, rfl, hM, k⟩ := h
  show t_lot_of K _ [some (.int (M : Int)), none, none] H
  unfold t_lot_of
  tm_at "go"
  refine ⟨by rw [sizeLine_eq]; decide, fun q hq => ?_⟩
  tm_at "go"
  refine s_whileGt (fun σ H1 => ∃ j : Nat, σ = [some (.int ((M >>> j : Nat) : Int)), some (.ref q), some (.int (j : Int))] ∧ Same H H1 ∧ H1 q = some (.lst (vN ((List.range j).filter fun i => M.testBit i))) ∧ j ≤ 1000)
    (fun σ _ => match σ[0]? with | some (some (V.int i)) => i.toNat | _ => 0) ⟨0, rfl, L2.Same.new hq, upd_same, Nat.zero_le _⟩ ?_
  rintro σ H1 ⟨j, rfl, e1, hL, hj⟩
  refine ⟨_, rfl, fun h0 => ?_, fun h0 => ?_⟩
  · have hpos : 0 < M >>> j := Int.natCast_pos.mp h0
    have hj1 : j < 1000 := by
      apply Classical.byContradiction
      intro hn
      have : M >>> j = 0 := by
        rw [Nat.shiftRight_eq_div_pow]
        refine Nat.div_eq_of_lt (Nat.lt_of_lt_of_le hM (Nat.pow_le_pow_right (by decide) (by omega)))
      omega
    have hb : (M >>> j) % 2 = if M.testBit j = true then 1 else 0 := by
      have := Nat.toNat_testBit M j
      rw [← Nat.shiftRight_eq_div_pow] at this
      rw [← this]
      cases M.testBit j <;> rfl
    have next : ∀ H2, Same H H2 → H2 q = some (.lst (vN ((List.range (j + 1)).filter fun i => M.testBit i))) →
        (tSeq (tAsg (tOp rShrI (tVar 0) (tC (.int 1))) (gName 0)) (tAug 2 (tC (.int 1)) (ipI fun i j => i + j))) { nx := fun σ' H' => (∃ j : Nat, σ' = [some (.int ((M >>> j : Nat) : Int)), some (.ref q), some (.int (j : Int))] ∧ Same H H' ∧ H' q = some (.lst (vN ((List.range j).filter fun i => M.testBit i))) ∧ j ≤ 1000) ∧ (match σ'[0]? with | some (some (V.int i)) => i.toNat | _ => 0) < M >>> j, ct := fun σ' H' => (∃ j : Nat, σ' = [some (.int ((M >>> j : Nat) : Int)), some (.ref q), some (.int (j : Int))] ∧ Same H H' ∧ H' q = some (.lst (vN ((List.range j).filter fun i => M.testBit i))) ∧ j ≤ 1000) ∧ (match σ'[0]? with | some (some (V.int i)) => i.toNat | _ => 0) < M >>> j, bk := fun σ H' => tRet (tCB rTupF (tCons (tVar 1) tNil)) { nx := fun _ H' => Q .non H', rt := Q } σ H', rt := Q } [some (.int ((M >>> j : Nat) : Int)), some (.ref q), some (.int (j : Int))] H2 := by
      intro H2 e2 hL2
      tm_at "go"
      refine s_shr (by decide) ?_
      rw [shr_succ]
      refine s_aug rfl ?_
      dsimp only [List.set]
      refine ⟨⟨j + 1, by rw [show ((j + 1 : Nat) : Int) = (j : Int) + 1 by omega], e2, hL2, by omega⟩, ?_⟩
      show ((M >>> (j + 1) : Nat) : Int).toNat < M >>> j
      rw [Int.toNat_natCast, Nat.shiftRight_succ]
      exact Nat.div_lt_self hpos (by decide)
    refine s_seq (s_ifs (s_truI (s_op (s_var rfl (s_c (s_band ?_))))))
    rw [mod2_nat, hb]
    by_cases hbit : M.testBit j = true
    · rw [if_pos hbit]
      refine s_ki (iteT ?_)
      refine s_drop (s_bm (s_var rfl (s_tyL hL (s_cons (s_var rfl (s_nil (s_app hL ?_ ?_)))))))
      · rw [vN_len]
        have := List.length_filter_le (fun i => M.testBit i) (List.range j)
        rw [List.length_range] at this
        omega
      refine next _ (e1.out hq) ?_
      rw [upd_same, bits_succ, if_pos hbit]
      unfold vN
      rw [List.map_append]
      rfl
    · rw [if_neg hbit]
      refine s_ki (iteF ?_)
      refine s_next ?_
      refine next _ e1 ?_
      rw [bits_succ, if_neg hbit, List.append_nil]
      exact hL
  · have hz : M >>> j = 0 := Nat.eq_zero_of_not_pos fun h => h0 (Int.natCast_pos.mpr h)
    tm_at "go"
    refine ⟨q, _, rfl, hL, fun l hl => ?_⟩
    refine k _ l _ (List.pairwise_lt_range.filter _) (fun i => ?_) (e1.free hl) (e1.trans (L2.Same.new hl)) upd_same
    rw [List.mem_filter, List.mem_range]
    refine ⟨fun h => h.2, fun h => ⟨?_, h⟩⟩
    apply Classical.byContradiction
    intro hn
    have : (M >>> j).testBit (i - j) = true := by
      rw [Nat.testBit_shiftRight, show j + (i - j) = i by omega]
      exact h
    rw [hz, Nat.zero_testBit] at this
    cases this
end Un
namespace Un
open PySem L2 PySem.Spec PyProof.Rows
abbrev Arr := Nat × Nat
def arrD (e : Arr) : PyData := .tuple [.int (e.1 : Int), .int (e.2 : Int)]
def arrsD (es : List Arr) : PyData := .tuple (es.map arrD)
def ArrN (m : Int) (e : Arr) : Prop := (e.1 : Int) < m ∧ (e.2 : Int) < m ∧ e.1 ≠ e.2
def ArrsOk (m : Int) (d : PyData) : Prop := ∃ es, d = arrsD es ∧ ∀ e ∈ es, ArrN m e
def sp_are_arrows : Sp := fun vs H Q _ => ∃ v d m, vs = [.int m, v] ∧ Rp H d v ∧ szD d = true ∧ ∀ H', Same H H' → Q (.bl (decP (ArrsOk m d))) H'
/-- what arrows lead to: as things made by recipes that use one thing each -/
def arrR (es : List Arr) : List Rec := es.map fun e => ([e.1], e.2)
def IsLed (es : List Arr) (T L B R : Nat) : Prop := IsMade (arrR es) T L B R
def sp_led_to : Sp := fun vs H Q _ => ∃ (v : V) (es : List Arr) (T L B : Nat), vs = [v, .int (T : Int), .int (L : Int), .int (B : Int)] ∧ Rp H (arrsD es) v ∧ es.length ≤ 1000 ∧ (∀ e ∈ es, e.1 ≤ 1000 ∧ e.2 ≤ 1000) ∧ T < 2 ^ 1000 ∧ ∀ (R : Nat) H', IsLed es T L B R → Same H H' → Q (.int R) H'
def MGoalsOk (m : Int) (es : List Arr) (d : PyData) : Prop := ∃ gl, d = lotD gl ∧ LotN m gl ∧ gl ≠ [] ∧ 0 ∉ gl ∧ ∀ R, IsLed es 1 (2 ^ m.toNat - 1) 0 R → Sub (mk gl) R
def sp_are_goals : Sp := fun vs H Q _ => ∃ (v w : V) (d : PyData) (m : Nat) (es : List Arr), vs = [.int (m : Int), v, w] ∧ 1 ≤ m ∧ m ≤ 900 ∧ Rp H (arrsD es) v ∧ es.length ≤ 1000 ∧ (∀ e ∈ es, e.1 ≤ 1000 ∧ e.2 ≤ 1000) ∧ Rp H d w ∧ szD d = true ∧ ∀ H', Same H H' → Q (.bl (decP (MGoalsOk m es d))) H'
end Un
namespace Un
open PySem L2 PySem.Spec PyProof.Rows
/-- are_arrows: 0 many, 1 thing, 2 pair, 3 place -/
def t_are_arrows (K : PySem.W.Frag) : TS :=
  (tSeq (tIfS (tNot (tB (tCB rIsD (tCons (tVar 1) (tCons (tC (.ty "tuple")) tNil))))) (tRet (tC (.bl false))) tNext)
    (tSeq (tFor (iTup K (tVar 1)) (gName 2)
    (tSeq (tIfS (tOr (tNot (tB (tCB rIsD (tCons (tVar 2) (tCons (tC (.ty "tuple")) tNil))))) (tOr (tTest (tOp rNe (tCB rLenF (tCons (tVar 2) tNil)) (tC (.int 2)))) (tNot (tB (tCB rAllF (tCons (tLc (iTup K (tVar 2)) (gName 3) tYes (tCall sp_is_index [] E0 (tCons (tVar 3) (tCons (tVar 0) tNil))) [3]) tNil)))))) (tRet (tC (.bl false))) tNext)
    (tIfS (tTest (tOp rEq (tOp rIxF (tVar 2) (tC (.int 0))) (tOp rIxF (tVar 2) (tC (.int 1))))) (tRet (tC (.bl false))) tNext)))
    (tRet (tC (.bl true)))))
/-- are_goals: 0 many, 1 arrows, 2 thing, 3 reached -/
def t_are_goals : TS :=
  (tSeq (tIfS (tOr (tNot (tB (tCall sp_is_lot [] E0 (tCons (tVar 2) (tCons (tVar 0) tNil))))) (tOr (tTest (tOp rEq (tCB rLenF (tCons (tVar 2) tNil)) (tC (.int 0)))) (tTest (tOp rEq (tOp rIxF (tVar 2) (tC (.int 0))) (tC (.int 0)))))) (tRet (tC (.bl false))) tNext)
    (tSeq (tAsg (tCall sp_led_to [] E0 (tCons (tVar 1) (tCons (tC (.int 1)) (tCons (tOp rSubI (tOp rShlI (tC (.int 1)) (tVar 0)) (tC (.int 1))) (tCons (tC (.int 0)) tNil))))) (gName 3))
    (tRet (tOp rEq (tOp rAndI (tCall sp_mask_of [] E0 (tCons (tVar 2) tNil)) (tUn rInv (tVar 3))) (tC (.int 0))))))
end Un
namespace Un
open PySem L2 PySem.Spec PyProof.Rows
local macro_rules | `(tactic| tm_at "s") => `(tactic| with_reducible first
  | refine s_seq ?_ | (refine s_asg ?_; dsimp only [List.set]) | refine s_asgG ?_ | refine g_sub ?_ | refine s_sl ?_ | refine s_noPart ?_ | refine s_part ?_ | refine s_bm ?_ | refine s_lstRg ?_ | refine s_tupRg ?_ | refine s_rg1 ?_ | refine s_rg2 ?_  | refine s_isB ?_ | refine s_notB ?_ | refine s_next ?_ | refine s_ret ?_ | refine s_drop ?_ | refine s_ifs ?_ | refine s_brk ?_ | refine s_cont ?_ | refine s_retN ?_
  | refine s_var rfl ?_ | refine s_c ?_ | refine s_op ?_ | refine s_cons ?_ | refine s_nil ?_ | refine s_call ?_ | refine s_CB ?_ | refine s_un ?_
  | refine s_test ?_ | refine s_tB ?_ | refine s_k ?_ | refine s_not ?_ | refine s_and ?_ | refine s_or ?_ | refine s_notV ?_ | refine s_andV ?_ | refine s_orV ?_ | refine s_if ?_
  | refine s_add ?_ | refine s_sub ?_ | refine s_lt ?_ | refine s_le ?_ | refine s_gt ?_ | refine s_ge ?_ | refine s_eqI ?_ | refine s_neI ?_ | refine s_band ?_ | refine s_bor ?_ | refine s_neg ?_ | refine s_inv ?_
  | refine s_isN ?_ | refine s_notN ?_ | refine s_int1 ?_ | refine s_abs ?_ | refine s_min2 ?_ | refine s_max2 ?_
  | refine s_tup ?_ | refine s_lst ?_ | refine s_chain ?_ | refine s_truI ?_ | refine s_ki ?_ | refine s_sfld ?_ | refine s_fld ?_ | refine g_cons ?_ | refine g_nil ?_ | (refine g_name ?_; dsimp only [List.set]) | refine s_isD (by decide) (by assumption) ?_)
local macro_rules | `(tactic| tm_at "go") => `(tactic| repeat' (tm_at "s"))
variable {K : PySem.W.Frag}
theorem arrD_iff {m : Int} {d : PyData} : (∃ e, d = arrD e ∧ ArrN m e) ↔ ∃ x y, d = .tuple [x, y] ∧ idx x m = true ∧ idx y m = true ∧ x ≠ y := by
  constructor
  · rintro ⟨e, rfl, h1, h2, h3⟩
    refine ⟨_, _, rfl, idx_iff.mpr ⟨e.1, rfl, h1⟩, idx_iff.mpr ⟨e.2, rfl, h2⟩, fun h => ?_⟩
    injection h with h
    omega
  · rintro ⟨x, y, rfl, h1, h2, h3⟩
    obtain ⟨k, rfl, hk⟩ := idx_iff.mp h1
    obtain ⟨l, rfl, hl⟩ := idx_iff.mp h2
    exact ⟨(k, l), rfl, hk, hl, fun e => h3 (by show PyData.int (k : Int) = .int (l : Int); rw [show k = l from e])⟩
theorem arrs_iff {m : Int} {ds : List PyData} : ArrsOk m (.tuple ds) ↔ ∀ d ∈ ds, ∃ e, d = arrD e ∧ ArrN m e := by
  constructor
  · rintro ⟨es, h, he⟩ d hd
    unfold arrsD at h
    injection h with h
    rw [h] at hd
    obtain ⟨e, h1, rfl⟩ := List.mem_map.mp hd
    exact ⟨e, rfl, he e h1⟩
  · intro h
    induction ds with
    | nil => exact ⟨[], rfl, fun e he => (nomatch he)⟩
    | cons d ds ih =>
      obtain ⟨e, rfl, he⟩ := h d (List.mem_cons_self ..)
      obtain ⟨es, h1, h2⟩ := ih fun d hd => h d (List.mem_cons_of_mem _ hd)
      unfold arrsD at h1
      injection h1 with h1
      refine ⟨e :: es, by unfold arrsD; rw [h1, List.map_cons], fun x hx => ?_⟩
      rcases List.mem_cons.mp hx with rfl | hx
      · exact he
      · exact h2 x hx
theorem pure_are_arrows (vs : List V) (H : Hp) (Q : VK) (E : XK) (h : sp_are_arrows vs H Q E) : t_are_arrows K { nx := fun _ H' => Q .non H', rt := Q } (start ["many", "thing", "pair", "place"] vs) H := by
  obtain ⟨v, d, m, rfl, hd, hsz, k⟩ := h
  show t_are_arrows K _ [some (.int m), some v, none, none] H
  unfold t_are_arrows
  have no : ∀ H', Same H H' → ¬ ArrsOk m d → Q (.bl false) H' := fun H' e n => by
    have := k H' e
    rw [decP_false n] at this
    exact this
  tm_at "go"
  cases d with
  | tuple ds =>
    obtain ⟨hl, hz⟩ := szD_tup hsz
    obtain ⟨a, xs, rfl, ha, hr⟩ := rp_tup.mp hd
    have hxl := hr.length
    refine iteF ?_
    tm_at "go"
    refine s_forT (fun i σ H1 => ∃ z : Option V, σ = [some (.int m), some (.ref a), z, none] ∧ Same H H1 ∧ ∀ (j : Nat) d, j < i → ds[j]? = some d → ∃ e, d = arrD e ∧ ArrN m e)
      ha ⟨none, rfl, Same.refl _, fun j d h => absurd h (Nat.not_lt_zero _)⟩ (fun i σ H1 ⟨_, _, e, _⟩ => e _ _ ha) ?_ ?_ fun _ q => ⟨_, rfl, q⟩
    · rintro i x σ H1 hi ⟨z, rfl, e1, hok⟩
      obtain ⟨d, hd1, hd2⟩ := hr.get hi
      have hd2' := hd2.up e1
      have bad : ∀ H', Same H H' → (¬ ∃ e, d = arrD e ∧ ArrN m e) → Q (.bl false) H' := fun H' e n => no H' e fun h => n (arrs_iff.mp h d (List.mem_of_getElem? hd1))
      have bad2 : ∀ H', Same H H' → (¬ ∃ x y, d = .tuple [x, y] ∧ idx x m = true ∧ idx y m = true ∧ x ≠ y) → Q (.bl false) H' := fun H' e n => bad H' e fun h => n (arrD_iff.mp h)
      refine g_slot ?_
      show tSeq _ _ _ [some (.int m), some (.ref a), some x, none] H1
      tm_at "go"
      cases d with
      | tuple es =>
        obtain ⟨hel, _⟩ := szD_tup (hz _ (List.mem_of_getElem? hd1))
        obtain ⟨b, ys, rfl, hb, hys⟩ := rp_tup.mp hd2'
        have hyl := hys.length
        refine iteF ?_
        tm_at "go"
        refine s_lenT hb ?_
        tm_at "go"
        refine s_itend (fun h1 => ?_) fun h1 => ?_
        · refine iteT ?_
          tm_at "go"
          refine bad2 _ e1 ?_
          rintro ⟨x, y, e, _⟩
          injection e with e
          rw [e] at hyl
          exact h1 (by rw [hyl]; rfl)
        tm_at "go"
        refine s_allT es (fun d => idx d m) hb hyl (by omega) (fun _ q => ⟨_, rfl, q⟩) (fun j y d' hj hdj H2 P e2 hP => ?_) fun H2 e2 => ?_
        · obtain ⟨d'', q1, q2⟩ := hys.get hj
          rw [hdj] at q1
          cases q1
          refine g_slot ⟨rfl, ?_⟩
          show tCall _ _ _ _ [some (.int m), some (.ref a), some (.ref b), some y] H2 P
          tm_at "go"
          exact ⟨y, d', m, rfl, q2.up e2, fun H3 e3 => hP H3 e3⟩
        have f2 := e1.trans e2
        tm_at "go"
        refine s_iten (fun h2 => ?_) fun h2 => ?_
        · tm_at "go"
          refine bad2 _ f2 ?_
          rintro ⟨x, y, e, i1, i2, _⟩
          injection e with e
          rw [e] at h2
          simp [i1, i2] at h2
        have hy2 : ys.length = 2 := by omega
        match ys, hy2 with
        | [u, w], _ =>
          match es, hyl with
          | [p, r], _ =>
            obtain ⟨_, _, e0, hp, hq⟩ := rpAll_cons.mp hys
            cases e0
            obtain ⟨_, _, e0, hq, _⟩ := rpAll_cons.mp hq
            cases e0
            simp at h2
            obtain ⟨kp, rfl, hkp⟩ := idx_iff.mp h2.1
            obtain ⟨kr, rfl, hkr⟩ := idx_iff.mp h2.2
            obtain rfl := rp_int.mp hp
            obtain rfl := rp_int.mp hq
            have hb2 := e2 _ _ hb
            tm_at "go"
            refine s_ixT hb2 at0 ?_
            tm_at "go"
            refine s_ixT hb2 at1 ?_
            tm_at "go"
            refine s_ited (fun h3 => ?_) fun h3 => ?_
            · tm_at "go"
              refine bad2 _ f2 ?_
              rintro ⟨x, y, e, _, _, n⟩
              injection e with e
              injection e with e1 e2
              injection e2 with e2
              refine n ?_
              rw [← e1, ← e2, h3]
            · tm_at "go"
              refine ⟨_, rfl, f2, fun j d hj hdj => ?_⟩
              by_cases e : j = i
              · subst e
                rw [hd1] at hdj
                cases hdj
                exact ⟨(kp, kr), rfl, hkp, hkr, fun e => h3 (by show (kp : Int) = kr; omega)⟩
              · exact hok j d (by omega) hdj
      | _ =>
        refine iteT ?_
        tm_at "go"
        refine bad2 _ e1 ?_
        rintro ⟨x, y, e, _⟩
        cases e
    · rintro σ H1 ⟨z, rfl, e1, hok⟩
      tm_at "go"
      have := k H1 e1
      rw [decP_true (arrs_iff.mpr fun d hd => ?_)] at this
      · exact this
      · obtain ⟨j, hj⟩ := List.mem_iff_getElem?.mp hd
        exact hok j d (by rw [hxl]; exact (List.getElem?_eq_some_iff.mp hj).1) hj
  | _ =>
    refine iteT ?_
    tm_at "go"
    refine no _ (Same.refl _) ?_
    rintro ⟨es, e, _⟩
    cases e
end Un
namespace Un
open PySem L2 PySem.Spec PyProof.Rows
local macro_rules | `(tactic| tm_at "s") => `(tactic| with_reducible first
  | refine s_seq ?_ | (refine s_asg ?_; dsimp only [List.set]) | refine s_asgG ?_ | refine g_sub ?_ | refine s_sl ?_ | refine s_noPart ?_ | refine s_part ?_ | refine s_bm ?_ | refine s_lstRg ?_ | refine s_tupRg ?_ | refine s_rg1 ?_ | refine s_rg2 ?_  | refine s_isB ?_ | refine s_notB ?_ | refine s_next ?_ | refine s_ret ?_ | refine s_drop ?_ | refine s_ifs ?_ | refine s_brk ?_ | refine s_cont ?_ | refine s_retN ?_
  | refine s_var rfl ?_ | refine s_c ?_ | refine s_op ?_ | refine s_cons ?_ | refine s_nil ?_ | refine s_call ?_ | refine s_CB ?_ | refine s_un ?_
  | refine s_test ?_ | refine s_tB ?_ | refine s_k ?_ | refine s_not ?_ | refine s_and ?_ | refine s_or ?_ | refine s_notV ?_ | refine s_andV ?_ | refine s_orV ?_ | refine s_if ?_
  | refine s_add ?_ | refine s_sub ?_ | refine s_lt ?_ | refine s_le ?_ | refine s_gt ?_ | refine s_ge ?_ | refine s_eqI ?_ | refine s_neI ?_ | refine s_band ?_ | refine s_bor ?_ | refine s_neg ?_ | refine s_inv ?_
  | refine s_isN ?_ | refine s_notN ?_ | refine s_int1 ?_ | refine s_abs ?_ | refine s_min2 ?_ | refine s_max2 ?_
  | refine s_tup ?_ | refine s_lst ?_ | refine s_chain ?_ | refine s_truI ?_ | refine s_ki ?_ | refine s_sfld ?_ | refine s_fld ?_ | refine g_cons ?_ | refine g_nil ?_ | (refine g_name ?_; dsimp only [List.set]) | refine s_isD (by decide) (by assumption) ?_)
local macro_rules | `(tactic| tm_at "go") => `(tactic| repeat' (tm_at "s"))
variable {K : PySem.W.Frag}
theorem pure_are_goals (vs : List V) (H : Hp) (Q : VK) (E : XK) (h : sp_are_goals vs H Q E) : t_are_goals { nx := fun _ H' => Q .non H', rt := Q } (start ["many", "arrows", "thing", "reached"] vs) H := by
  obtain ⟨v, w, d, m, es, rfl, m1, m9, hv, hel, hes, hd, hsz, k⟩ := h
  show t_are_goals _ [some (.int (m : Int)), some v, some w, none] H
  unfold t_are_goals
  have no : ∀ H', Same H H' → ¬ MGoalsOk m es d → Q (.bl false) H' := fun H' e n => by
    have := k H' e
    rw [decP_false n] at this
    exact this
  tm_at "go"
  refine ⟨w, d, m, rfl, hd, fun H1 e1 => ?_⟩
  tm_at "go"
  refine s_iten (fun h1 => ?_) fun h1 => ?_
  · refine iteT ?_
    tm_at "go"
    refine no _ e1 ?_
    rintro ⟨gl, rfl, q, _⟩
    rw [isLot_iff.mpr ⟨gl, rfl, q⟩] at h1
    cases h1
  obtain ⟨gl, rfl, hgl⟩ := isLot_iff.mp h1
  obtain ⟨g, rfl, hg⟩ := rp_lot.mp hd
  tm_at "go"
  refine s_lenT (e1 _ _ hg) ?_
  tm_at "go"
  refine s_ited (fun h2 => ?_) fun h2 => ?_
  · refine iteT ?_
    tm_at "go"
    refine no _ e1 ?_
    rintro ⟨gl', e, _, n, _⟩
    rw [← lotD_inj e] at n
    rw [vN_len] at h2
    exact n (List.eq_nil_of_length_eq_zero (by omega))
  obtain ⟨x, xr, rfl⟩ : ∃ x xr, gl = x :: xr := by
    cases gl with
    | nil => exact absurd rfl h2
    | cons x xr => exact ⟨x, xr, rfl⟩
  tm_at "go"
  refine s_ixT (e1 _ _ hg) (v := .int (x : Int)) atI0 ?_
  tm_at "go"
  refine s_ited (fun h3 => ?_) fun h3 => ?_
  · tm_at "go"
    refine no _ e1 ?_
    rintro ⟨gl', e, _, _, n, _⟩
    rw [← lotD_inj e] at n
    exact n (by rw [show x = 0 by omega]; exact List.mem_cons_self ..)
  have h0 : 0 ∉ x :: xr := fun hm => by
    obtain ⟨q1, _⟩ := List.pairwise_cons.mp hgl.1
    rcases List.mem_cons.mp hm with e | hm
    · exact h3 (by rw [← e]; rfl)
    · have := q1 0 hm
      omega
  tm_at "go"
  refine s_shl ⟨by omega, by omega, by decide⟩ ?_
  tm_at "go"
  rw [full_nat]
  refine ⟨v, es, 1, 2 ^ m - 1, 0, rfl, hv.up e1, hel, hes, Nat.one_lt_two_pow (by decide), fun R H2 hR e2 => ?_⟩
  have f2 := e1.trans e2
  tm_at "go"
  refine ⟨g, x :: xr, rfl, f2 _ _ hg, fun n hn => by have := hgl.2 n hn; omega, fun H3 e3 => ?_⟩
  tm_at "go"
  rw [bandnot_nat]
  have := k H3 (f2.trans e3)
  have e4 : decide (((mk (x :: xr) - (mk (x :: xr) &&& R) : Nat) : Int) = 0) = decP (MGoalsOk m es (lotD (x :: xr))) := by
    refine decP_eq ?_
    rw [decide_eq_true_eq]
    constructor
    · intro h
      refine ⟨x :: xr, rfl, hgl, by simp, h0, fun R' hR' => ?_⟩
      rw [Int.toNat_natCast] at hR'
      rw [IsMade.uniq hR' hR]
      exact (sub_iff _ _).mp (by omega)
    · rintro ⟨gl', e, _, _, _, q⟩
      rw [← lotD_inj e] at q
      have := (sub_iff _ _).mpr (q R (by rw [Int.toNat_natCast]; exact hR))
      omega
  rw [e4]
  exact this
end Un
namespace Un
open PySem L2 PySem.Spec PyProof.Rows
def toE : PyData → Arr
  | .tuple [x, y] => ((toI x).toNat, (toI y).toNat)
  | _ => (0, 0)
def toEs : PyData → List Arr
  | .tuple ds => ds.map toE
  | _ => []
theorem toEs_arrs (es : List Arr) : toEs (arrsD es) = es := by
  show (es.map arrD).map toE = es
  rw [List.map_map]
  have : toE ∘ arrD = id := by
    funext e
    show (((e.1 : Int)).toNat, ((e.2 : Int)).toNat) = e
    rw [Int.toNat_natCast, Int.toNat_natCast]
  rw [this, List.map_id]
/-- the first part of a map that is not as described -/
noncomputable def badM (d0 d1 d2 : PyData) : Option Str :=
  if btw d0 2 40 = false then some ("many" : Str) else if decP (ArrsOk (toI d0) d1 ∧ lenD d1 ≤ 60) = false then some ("arrows" : Str)
  else if decP (MGoalsOk (toI d0) (toEs d1) d2) = false then some ("goals" : Str) else none
def mapF (v0 v1 v2 v3 : V) : List (Str × V) := [("kept_many", v0), ("kept_arrows", v1), ("kept_goals", v2), ("kept_left", v3)]
structure MapTxt (K : PySem.W.Frag) (C : Addr) : Prop where
  cl : Cls K C
  n0 : NoAttr K C "kept_many"
  n1 : NoAttr K C "kept_arrows"
  n2 : NoAttr K C "kept_goals"
  n3 : NoAttr K C "kept_left"
def sp_Map_keep (C : Addr) : Sp := fun vs H Q _ => ∃ (p dx : Addr) (v0 v1 v2 : V), vs = [.ref p, v0, v1, v2] ∧ H p = some (.ins C dx []) ∧
  ∀ l H', H l = none → l ≠ p → (∀ b o, b ≠ p → H b = some o → H' b = some o) → H' l = some (.dK []) → H' p = some (.ins C dx (mapF v0 v1 v2 (.ref l))) → Q .non H'
def sp_Map_mk (C CE : Addr) : Sp := fun vs H Q E => ∃ (p dx : Addr) (v0 v1 v2 : V) (d0 d1 d2 : PyData), vs = [.ref p, v0, v1, v2] ∧ H p = some (.ins C dx []) ∧ Rp H d0 v0 ∧ Rp H d1 v1 ∧ Rp H d2 v2 ∧ szD d1 = true ∧ szD d2 = true ∧
  (∀ t, badM d0 d1 d2 = some t → ∀ H' d, Same H H' → H' d = none → E (.ref CE) (some d) (upd H' d (.xd [(("part" : Str), .str t)]))) ∧
  (badM d0 d1 d2 = none → ∀ l H', H l = none → l ≠ p → (∀ b o, b ≠ p → H b = some o → H' b = some o) → H' l = some (.dK []) → H' p = some (.ins C dx (mapF v0 v1 v2 (.ref l))) → Q .non H')
end Un
namespace Un
open PySem L2 PySem.Spec PyProof.Rows
/-- Map.keep: 0 self, 1 many, 2 arrows, 3 goals -/
def t_Map_keep (K : PySem.W.Frag) : TS :=
  (tSeq (sFld K (tVar 0) (tVar 1) "kept_many")
    (tSeq (sFld K (tVar 0) (tVar 2) "kept_arrows")
    (tSeq (sFld K (tVar 0) (tVar 3) "kept_goals")
    (sFld K (tVar 0) tDNewK "kept_left"))))
/-- Map.__init__: 0 self, 1 many, 2 arrows, 3 goals -/
def t_Map_init (C_NoMap : Addr) (C_Map : Addr) (E : XK) : TS :=
  (tSeq (tIfS (tNot (tB (tCall sp_is_between [] E0 (tCons (tVar 1) (tCons (tC (.int 2)) (tCons (tC (.int 40)) tNil)))))) (tRaiseP C_NoMap (fun cls d _ H => E cls d H) (tCons (tC (.str "many")) tNil)) tNext)
    (tSeq (tIfS (tOr (tNot (tB (tCall sp_are_arrows [] E0 (tCons (tVar 1) (tCons (tVar 2) tNil))))) (tTest (tOp rGtI (tCB rLenF (tCons (tVar 2) tNil)) (tC (.int 60))))) (tRaiseP C_NoMap (fun cls d _ H => E cls d H) (tCons (tC (.str "arrows")) tNil)) tNext)
    (tSeq (tIfS (tNot (tB (tCall sp_are_goals [] E0 (tCons (tVar 1) (tCons (tVar 2) (tCons (tVar 3) tNil)))))) (tRaiseP C_NoMap (fun cls d _ H => E cls d H) (tCons (tC (.str "goals")) tNil)) tNext)
    (tDrop (tMeth C_Map "keep" (sp_Map_keep C_Map) [] E0 (tVar 0) (tCons (tVar 1) (tCons (tVar 2) (tCons (tVar 3) tNil))))))))
end Un
namespace Un
open PySem L2 PySem.Spec PyProof.Rows
local macro_rules | `(tactic| tm_at "s") => `(tactic| with_reducible first
  | refine s_seq ?_ | (refine s_asg ?_; dsimp only [List.set]) | refine s_asgG ?_ | refine g_sub ?_ | refine s_sl ?_ | refine s_noPart ?_ | refine s_part ?_ | refine s_bm ?_ | refine s_lstRg ?_ | refine s_tupRg ?_ | refine s_rg1 ?_ | refine s_rg2 ?_  | refine s_isB ?_ | refine s_notB ?_ | refine s_next ?_ | refine s_ret ?_ | refine s_drop ?_ | refine s_ifs ?_ | refine s_brk ?_ | refine s_cont ?_ | refine s_retN ?_
  | refine s_var rfl ?_ | refine s_c ?_ | refine s_op ?_ | refine s_cons ?_ | refine s_nil ?_ | refine s_call ?_ | refine s_CB ?_ | refine s_un ?_
  | refine s_test ?_ | refine s_tB ?_ | refine s_k ?_ | refine s_not ?_ | refine s_and ?_ | refine s_or ?_ | refine s_notV ?_ | refine s_andV ?_ | refine s_orV ?_ | refine s_if ?_
  | refine s_add ?_ | refine s_sub ?_ | refine s_lt ?_ | refine s_le ?_ | refine s_gt ?_ | refine s_ge ?_ | refine s_eqI ?_ | refine s_neI ?_ | refine s_band ?_ | refine s_bor ?_ | refine s_neg ?_ | refine s_inv ?_
  | refine s_isN ?_ | refine s_notN ?_ | refine s_int1 ?_ | refine s_abs ?_ | refine s_min2 ?_ | refine s_max2 ?_
  | refine s_tup ?_ | refine s_lst ?_ | refine s_chain ?_ | refine s_truI ?_ | refine s_ki ?_ | refine s_sfld ?_ | refine s_fld ?_ | refine g_cons ?_ | refine g_nil ?_ | (refine g_name ?_; dsimp only [List.set]) | refine s_isD (by decide) (by assumption) ?_)
local macro_rules | `(tactic| tm_at "go") => `(tactic| repeat' (tm_at "s"))
variable {K : PySem.W.Frag} {C CE : Addr}
theorem mapF_eq (v0 v1 v2 v3 : V) : putF "kept_left" v3 (putF "kept_goals" v2 (putF "kept_arrows" v1 (putF "kept_many" v0 []))) = mapF v0 v1 v2 v3 := by
  have e1 : ¬ (("kept_many" : Str) = "kept_arrows") := by decide +kernel
  have e2 : ¬ (("kept_many" : Str) = "kept_goals") := by decide +kernel
  have e3 : ¬ (("kept_many" : Str) = "kept_left") := by decide +kernel
  have e4 : ¬ (("kept_arrows" : Str) = "kept_goals") := by decide +kernel
  have e5 : ¬ (("kept_arrows" : Str) = "kept_left") := by decide +kernel
  have e6 : ¬ (("kept_goals" : Str) = "kept_left") := by decide +kernel
  simp only [putF, e1, e2, e3, e4, e5, e6, if_false, mapF]
theorem pure_Map_keep (T : MapTxt K C) (vs : List V) (H : Hp) (Q : VK) (E : XK) (h : sp_Map_keep C vs H Q E) : t_Map_keep K { nx := fun _ H' => Q .non H', rt := Q } (start ["self", "many", "arrows", "goals"] vs) H := by
  obtain ⟨p, dx, v0, v1, v2, rfl, hp, k⟩ := h
  show t_Map_keep K _ [some (.ref p), some v0, some v1, some v2] H
  unfold t_Map_keep
  tm_at "go"
  refine ⟨p, C, dx, [], rfl, hp, T.cl, T.n0, by decide, ?_⟩
  tm_at "go"
  refine ⟨p, C, dx, _, rfl, upd_same, T.cl, T.n1, (by show 1 < 1000; decide), ?_⟩
  tm_at "go"
  refine ⟨p, C, dx, _, rfl, upd_same, T.cl, T.n2, ?_, ?_⟩
  · exact Nat.lt_of_le_of_lt (length_putF _ _ _) (by show 2 < 1000; decide)
  dsimp only
  refine s_sfld ?_
  intro l hl
  have hlp : l ≠ p := fun e => by rw [e, upd_same] at hl; cases hl
  have hl0 : H l = none := by
    rw [upd_ne hlp, upd_ne hlp, upd_ne hlp] at hl
    exact hl
  tm_at "go"
  refine ⟨p, C, dx, _, rfl, by rw [upd_ne (Ne.symm hlp), upd_same], T.cl, T.n3, ?_, ?_⟩
  · exact Nat.lt_of_le_of_lt (length_putF _ _ _) (Nat.lt_of_le_of_lt (Nat.succ_le_succ (length_putF _ _ _)) (by show 3 < 1000; decide))
  rw [mapF_eq]
  refine k l _ hl0 hlp (fun b o hb e => ?_) (by rw [upd_ne hlp, upd_same]) upd_same
  have hbl : b ≠ l := ne_of_none e hl0
  rw [upd_ne hb, upd_ne hbl, upd_ne hb, upd_ne hb, upd_ne hb]
  exact e
theorem pure_Map_init (vs : List V) (H : Hp) (Q : VK) (E : XK) (h : sp_Map_mk C CE vs H Q E) : t_Map_init CE C E { nx := fun _ H' => Q .non H', rt := Q } (start ["self", "many", "arrows", "goals"] vs) H := by
  obtain ⟨p, dx, v0, v1, v2, d0, d1, d2, rfl, hp, r0, r1, r2, z1, z2, kE, kQ⟩ := h
  show t_Map_init CE C E _ [some (.ref p), some v0, some v1, some v2] H
  unfold t_Map_init
  tm_at "go"
  refine ⟨v0, d0, 2, 40, rfl, r0, fun H1 e1 => ?_⟩
  tm_at "go"
  refine s_iten (fun h0 => ?_) fun h0 => ?_
  · refine s_raiseP fun d hd => kE _ ?_ _ d e1 hd
    unfold badM
    rw [if_pos h0]
  have b0 : ¬ btw d0 2 40 = false := by rw [h0]; decide
  obtain ⟨m, rfl, hm2, hm40⟩ : ∃ m : Nat, d0 = .int (m : Int) ∧ 2 ≤ m ∧ m ≤ 40 := by
    cases d0 with
    | int i =>
      simp only [btw, Bool.and_eq_true, decide_eq_true_eq] at h0
      exact ⟨i.toNat, by rw [Int.toNat_of_nonneg (by omega)], by omega, by omega⟩
    | _ => cases h0
  obtain rfl := rp_int.mp r0
  have badA : ∀ H' d, Same H H' → H' d = none → ¬ (ArrsOk (m : Int) d1 ∧ lenD d1 ≤ 60) → E (.ref CE) (some d) (upd H' d (.xd [(("part" : Str), .str ("arrows" : Str))])) := fun H' d e hd n => by
    refine kE _ ?_ _ d e hd
    unfold badM
    rw [if_neg b0, if_pos]
    exact decP_false n
  tm_at "go"
  refine ⟨v1, d1, m, rfl, r1.up e1, z1, fun H2 e2 => ?_⟩
  have f2 := e1.trans e2
  tm_at "go"
  refine s_iten (fun h1 => ?_) fun h1 => ?_
  · refine iteT ?_
    refine s_raiseP fun d hd => badA _ d f2 hd fun h => ?_
    rw [decP_true h.1] at h1
    cases h1
  obtain ⟨es, rfl, hes⟩ := decP_iff.mp h1
  obtain ⟨a, xs, rfl, ha, hx⟩ := rp_tup.mp r1
  have hxl := hx.length
  rw [List.length_map] at hxl
  have hln : lenD (arrsD es) = es.length := by
    show (es.map arrD).length = _
    rw [List.length_map]
  tm_at "go"
  refine s_lenT (f2 _ _ ha) ?_
  tm_at "go"
  refine s_ited (fun h2 => ?_) fun h2 => ?_
  · refine s_raiseP fun d hd => badA _ d f2 hd fun h => ?_
    have := h.2
    omega
  have b1 : ¬ decP (ArrsOk (toI (.int (m : Int))) (arrsD es) ∧ lenD (arrsD es) ≤ 60) = false := by
    rw [decP_true (show ArrsOk (toI (.int (m : Int))) (arrsD es) ∧ lenD (arrsD es) ≤ 60 from ⟨⟨es, rfl, hes⟩, by omega⟩)]
    decide
  tm_at "go"
  refine ⟨.ref a, v2, d2, m, es, rfl, by omega, by omega, (show Rp H (arrsD es) (.ref a) from r1).up f2, by omega, fun e he => ?_, r2.up f2, z2, fun H3 e3 => ?_⟩
  · obtain ⟨q1, q2, _⟩ := hes e he
    omega
  have f3 := f2.trans e3
  tm_at "go"
  refine s_iten (fun h3 => ?_) fun h3 => ?_
  · refine s_raiseP fun d hd => kE _ ?_ _ d f3 hd
    unfold badM
    rw [if_neg b0, if_neg b1, toEs_arrs, if_pos]
    exact h3
  have bad0 : badM (.int (m : Int)) (arrsD es) d2 = none := by
    unfold badM
    rw [if_neg b0, if_neg b1, toEs_arrs, if_neg]
    show ¬ decP (MGoalsOk (m : Int) es d2) = false
    rw [h3]
    decide
  refine s_next ?_
  dsimp only
  refine s_drop ⟨.ref p, rfl, p, dx, [], rfl, f3 _ _ hp, rfl, ?_⟩
  tm_at "go"
  refine ⟨p, dx, _, _, _, rfl, f3 _ _ hp, fun l H4 hl hlp hk hd4 hp4 => ?_⟩
  exact kQ bad0 l H4 (f3.free hl) hlp (fun b o hb e => hk b o hb (f3 _ _ e)) hd4 hp4
end Un
namespace Un
open PySem L2 PySem.Spec PyProof.Rows
def t_lawL (K : PySem.W.Frag) (C_Cookery : Addr) : TS :=
  (tSeq (tAsg (tCall sp__law_spoiled [] E0 (tCons (tVar 1) (tCons (tVar 4) tNil))) (gName 9))
    (tSeq (tAsg (tCall sp__law_bad [] E0 (tCons (tVar 9) tNil)) (gName 10))
    (tSeq (tAsg (tCall (sp__law_built C_Cookery) [] E0 (tCons (tVar 9) tNil)) (gTup K 2 (gCons (gName 5) (gCons (gName 11) gNil))))
    (tSeq (tIfS (tOr (tTest (tOp rNe (tVar 5) (tVar 10))) (tTest (tOp rNe (tOp rIsNon (tVar 11) (tC .non)) (tOp rNotNon (tVar 10) (tC .non))))) (tRet (tC (.bl false))) tNext)
    (tIfS (tTest (tOp rIsNon (tVar 10) (tC .non))) (tSeq (tIfS (tOr (tNot (tB (tCall (sp__law_keeps C_Cookery) [] E0 (tCons (tVar 11) (tCons (tVar 9) tNil))))) (tNot (tB (tCall sp__law_is_order [] E0 (tCons (tVar 9) (tCons (tCall (sp_kitchen_order C_Cookery) [] E0 (tCons (tVar 11) tNil)) tNil)))))) (tRet (tC (.bl false))) tNext)
    (tSeq (tIfS (tAnd (tTest (tOp rNotB (tOp (rEqO K C_Cookery (sp_Cookery_eq K C_Cookery) E0) (tVar 6) (tVar 11)) (tC (.bl true)))) (tTest (tOp rNotB (tOp (rEqO K C_Cookery (sp_Cookery_eq K C_Cookery) E0) (tVar 6) (tVar 11)) (tC (.bl false))))) (tRet (tC (.bl false))) tNext)
    (tIfS (tTest (tOp rNe (tOp (rEqO K C_Cookery (sp_Cookery_eq K C_Cookery) E0) (tVar 6) (tVar 11)) (tOp rEqP (tCB rLstF (tCons (tVar 4) tNil)) (tVar 9)))) (tRet (tC (.bl false))) tNext))) tNext)))))
def t_lawF (K : PySem.W.Frag) (C_Cookery : Addr) : TS :=
  (tSeq (tFor (iRng1 (tCons (tC (.int 5)) tNil)) (gName 8)
    (t_lawL K C_Cookery))
    (tRet (tCall (sp__law_keeps C_Cookery) [] E0 (tCons (tVar 6) (tCons (tVar 4) tNil)))))
def t_lawM (K : PySem.W.Frag) (C_Cookery : Addr) (C_NoCookery : Addr) (C_Map : Addr) (C_NoMap : Addr) : TS :=
  (tSeq (tAsg (tCall (sp__law_built C_Cookery) [] E0 (tCons (tVar 4) tNil)) (gTup K 2 (gCons (gName 5) (gCons (gName 6) gNil))))
    (tSeq (tIfS (tOr (tTest (tOp rNotNon (tVar 5) (tC .non))) (tOr (tTest (tOp rIsNon (tVar 6) (tC .non))) (tNot (tB (tCall (sp__law_keeps C_Cookery) [] E0 (tCons (tVar 6) (tCons (tVar 4) tNil))))))) (tRet (tC (.bl false))) tNext)
    (tSeq (tIfS (tNot (tB (tCall sp__law_is_order [] E0 (tCons (tVar 4) (tCons (tCall (sp_kitchen_order C_Cookery) [] E0 (tCons (tVar 6) tNil)) tNil))))) (tRet (tC (.bl false))) tNext)
    (tSeq (tAsg (tMake C_Cookery (sp_Cookery_init C_Cookery C_NoCookery) [] E0 (tCons (tOp rIxF (tVar 4) (tC (.int 0))) (tCons (tOp rIxF (tVar 4) (tC (.int 1))) (tCons (tOp rIxF (tVar 4) (tC (.int 2))) (tCons (tOp rIxF (tVar 4) (tC (.int 3))) tNil))))) (gName 7))
    (tSeq (tIfS (tOr (tTest (tOp rNotB (tOp (rEqO K C_Cookery (sp_Cookery_eq K C_Cookery) E0) (tVar 6) (tVar 7)) (tC (.bl true)))) (tOr (tTest (tOp rNotB (tOp (rEqO K C_Cookery (sp_Cookery_eq K C_Cookery) E0) (tVar 6) (tVar 4)) (tC (.bl false)))) (tTest (tOp rNotB (tOp (rEqO K C_Cookery (sp_Cookery_eq K C_Cookery) E0) (tVar 6) (tC .non)) (tC (.bl false)))))) (tRet (tC (.bl false))) tNext)
    (tSeq (tIfS (tTest (tOp rNotB (tOp (rEqO K C_Cookery (sp_Cookery_eq K C_Cookery) E0) (tVar 6) (tMake C_Map (sp_Map_mk C_Map C_NoMap) [] E0 (tCons (tC (.int 2)) (tCons (tTup (tCons (tTup (tCons (tC (.int 0)) (tCons (tC (.int 1)) tNil))) tNil)) (tCons (tTup (tCons (tC (.int 1)) tNil)) tNil))))) (tC (.bl false)))) (tRet (tC (.bl false))) tNext)
    (t_lawF K C_Cookery)))))))
/-- law: 0 _law_script, 1 _law_hand_here, 2 _law_things, 3 _law_recipes, 4 _law_parts, 5 _law_refused, 6 _law_book, 7 _law_twin, 8 _law_turn, 9 _law_odd, 10 _law_due, 11 _law_other -/
def t_law (K : PySem.W.Frag) (C_Cookery : Addr) (C_NoCookery : Addr) (C_Map : Addr) (C_NoMap : Addr) : TS :=
  (tSeq (tAsg (tCall (sp__law_hand K) [] E0 (tCons (tVar 0) tNil)) (gName 1))
    (tSeq (tAsg (tOp rIxF (tLst (tCons (tTup (tCons (tC (.int 5)) (tCons (tC (.int 8)) tNil))) (tCons (tTup (tCons (tC (.int 5)) (tCons (tC (.int 5)) tNil))) (tCons (tTup (tCons (tC (.int 9)) (tCons (tC (.int 14)) tNil))) (tCons (tTup (tCons (tC (.int 40)) (tCons (tC (.int 40)) tNil))) tNil))))) (tCall sp__law_draw [] E0 (tCons (tVar 1) (tCons (tC (.int 4)) tNil)))) (gTup K 2 (gCons (gName 2) (gCons (gName 3) gNil))))
    (tSeq (tAsg (tCall sp__law_kitchen [] E0 (tCons (tVar 1) (tCons (tVar 2) (tCons (tVar 3) tNil)))) (gName 4))
    (t_lawM K C_Cookery C_NoCookery C_Map C_NoMap))))
end Un
namespace Un
open PySem L2 PySem.Spec PyProof.Rows
local macro_rules | `(tactic| tm_at "s") => `(tactic| with_reducible first
  | refine s_seq ?_ | (refine s_asg ?_; dsimp only [List.set]) | refine s_asgG ?_ | refine g_sub ?_ | refine s_sl ?_ | refine s_noPart ?_ | refine s_part ?_ | refine s_bm ?_ | refine s_lstRg ?_ | refine s_tupRg ?_ | refine s_rg1 ?_ | refine s_rg2 ?_  | refine s_isB ?_ | refine s_notB ?_ | refine s_next ?_ | refine s_ret ?_ | refine s_drop ?_ | refine s_ifs ?_ | refine s_brk ?_ | refine s_cont ?_ | refine s_retN ?_
  | refine s_var rfl ?_ | refine s_c ?_ | refine s_op ?_ | refine s_cons ?_ | refine s_nil ?_ | refine s_call ?_ | refine s_CB ?_ | refine s_un ?_
  | refine s_test ?_ | refine s_tB ?_ | refine s_k ?_ | refine s_not ?_ | refine s_and ?_ | refine s_or ?_ | refine s_notV ?_ | refine s_andV ?_ | refine s_orV ?_ | refine s_if ?_
  | refine s_add ?_ | refine s_sub ?_ | refine s_lt ?_ | refine s_le ?_ | refine s_gt ?_ | refine s_ge ?_ | refine s_eqI ?_ | refine s_neI ?_ | refine s_band ?_ | refine s_bor ?_ | refine s_neg ?_ | refine s_inv ?_
  | refine s_isN ?_ | refine s_notN ?_ | refine s_int1 ?_ | refine s_abs ?_ | refine s_min2 ?_ | refine s_max2 ?_
  | refine s_tup ?_ | refine s_lst ?_ | refine s_chain ?_ | refine s_truI ?_ | refine s_ki ?_ | refine s_sfld ?_ | refine s_fld ?_ | refine g_cons ?_ | refine g_nil ?_ | (refine g_name ?_; dsimp only [List.set]) | refine s_isD (by decide) (by assumption) ?_)
local macro_rules | `(tactic| tm_at "go") => `(tactic| repeat' (tm_at "s"))
variable {K : PySem.W.Frag} {C CE CM : Addr}
theorem g_any {n : Nat} {t : TGs} {a : Addr} {x y : V} {σ : L2.St} {H : Hp} {Q : L2.St → Hp → Prop} (h : H a = some (.tup [x, y])) (hn : n = 2) (q : t [x, y] σ H Q) : gTup K n t (.ref a) σ H Q := g_tup h (by rw [hn]; rfl) q
/-- book == y for y no cookery -/
theorem eq_no {b dx : Addr} {v0 v1 v2 v3 y : V} {t : Value} {H : Hp} {Q : VK} (hb : H b = some (.ins C dx (cookF v0 v1 v2 v3))) (ty : TyX K H y t) (hn : PySem.W.notFirst K C t = true) (hk : PySem.W.kitOne K t (.ref C) = some false) (q : Q (.bl false) H) :
    rEqO K C (sp_Cookery_eq K C) E0 (.ref b) y H Q := ⟨b, dx, _, t, rfl, hb, ty, hn, b, dx, v0, v1, v2, v3, y, rfl, hb, .inl ⟨t, ty, hk, false, rfl, q⟩⟩
/-- book == other -/
theorem eq_yes (T : InsTxt K C) {b dx c dy : Addr} {v0 v1 v2 v3 w0 w1 w2 w3 : V} {H : Hp} {Q : VK} {m m' : Nat} {gv gv' gl gl' : List Nat} {rs rs' : List Rec} (hb : H b = some (.ins C dx (cookF v0 v1 v2 v3))) (hc : H c = some (.ins C dy (cookF w0 w1 w2 w3)))
    (r : RpAll H (partsD m gv rs gl) [v0, v1, v2, v3]) (r' : RpAll H (partsD m' gv' rs' gl') [w0, w1, w2, w3]) (q : ∀ H', Same H H' → Q (.bl (PyData.eqvAll (partsD m gv rs gl) (partsD m' gv' rs' gl'))) H') :
    rEqO K C (sp_Cookery_eq K C) E0 (.ref b) (.ref c) H Q := ⟨b, dx, _, .ref C, rfl, hb, T.ty hc, by unfold PySem.W.notFirst; simp, b, dx, v0, v1, v2, v3, .ref c, rfl, hb, .inr ⟨c, dy, w0, w1, w2, w3, _, _, rfl, hc, r, r', plain_parts, plain_parts, shaped_tup can_parts depth_parts (by decide), shaped_tup can_parts depth_parts (by decide),
      fun H' e => ⟨_, rfl, q H' e⟩⟩⟩
/-- is_order(parts, kitchen_order(book)) -/
theorem order_ok {i j b dx p a2 : Addr} {σ : L2.St} {v1 v3 : V} {H : Hp} {Q : VK} {m : Nat} {gv gl : List Nat} {rs : List Rec} {ip ib : Nat} (hp : σ[ip]? = some (some (.ref p))) (hbs : σ[ib]? = some (some (.ref b))) (hb : H b = some (.ins C dx (cookF (.int (m : Int)) v1 (.ref a2) v3))) (hr : Rp H (recsD rs) (.ref a2)) (hP : PartsAt H p m rs) (good : Good m gv rs gl)
    (q : ∀ H', Same H H' → Q (.bl true) H') : tCall sp__law_is_order [] E0 (tCons (tVar ip) (tCons (tCall (sp_kitchen_order C) [] E0 (tCons (tVar ib) tNil)) tNil)) σ H Q := by
  have m40 := good.m40
  have rsl := good.rsl
  obtain ⟨_, _, l3⟩ := good.lens
  refine s_call (s_cons (s_var hp (s_cons (s_call (s_cons (s_var hbs (s_nil ?_)))))))
  refine ⟨b, dx, m, v1, v3, a2, rs, rfl, hb, hr, by omega, by omega, fun r hr => by have := l3 r hr; omega, fun L hO hA => ⟨fun hl H' e => ?_, fun hl q' H' hq e hz => ?_⟩⟩
  · refine s_nil ⟨p, .non, m, rs, rfl, hP.up e, by omega, by omega, fun r hr => ⟨by have := l3 r hr; omega, by have := (good.rsOk r hr).2.2.1; omega⟩, ⟨L, hO, hA, .inl ⟨hl, rfl⟩⟩, fun H2 e2 => q H2 (e.trans e2)⟩
  · refine s_nil ⟨p, .ref q', m, rs, rfl, hP.up e, by omega, by omega, fun r hr => ⟨by have := l3 r hr; omega, by have := (good.rsOk r hr).2.2.1; omega⟩, ⟨L, hO, hA, .inr ⟨hl, q', rfl, hz⟩⟩, fun H2 e2 => q H2 (e.trans e2)⟩
end Un
namespace Un
open PySem L2 PySem.Spec PyProof.Rows
local macro_rules | `(tactic| tm_at "s") => `(tactic| with_reducible first
  | refine s_seq ?_ | (refine s_asg ?_; dsimp only [List.set]) | refine s_asgG ?_ | refine g_sub ?_ | refine s_sl ?_ | refine s_noPart ?_ | refine s_part ?_ | refine s_bm ?_ | refine s_lstRg ?_ | refine s_tupRg ?_ | refine s_rg1 ?_ | refine s_rg2 ?_  | refine s_isB ?_ | refine s_notB ?_ | refine s_next ?_ | refine s_ret ?_ | refine s_drop ?_ | refine s_ifs ?_ | refine s_brk ?_ | refine s_cont ?_ | refine s_retN ?_
  | refine s_var rfl ?_ | refine s_c ?_ | refine s_op ?_ | refine s_cons ?_ | refine s_nil ?_ | refine s_call ?_ | refine s_CB ?_ | refine s_un ?_
  | refine s_test ?_ | refine s_tB ?_ | refine s_k ?_ | refine s_not ?_ | refine s_and ?_ | refine s_or ?_ | refine s_notV ?_ | refine s_andV ?_ | refine s_orV ?_ | refine s_if ?_
  | refine s_add ?_ | refine s_sub ?_ | refine s_lt ?_ | refine s_le ?_ | refine s_gt ?_ | refine s_ge ?_ | refine s_eqI ?_ | refine s_neI ?_ | refine s_band ?_ | refine s_bor ?_ | refine s_neg ?_ | refine s_inv ?_
  | refine s_isN ?_ | refine s_notN ?_ | refine s_int1 ?_ | refine s_abs ?_ | refine s_min2 ?_ | refine s_max2 ?_
  | refine s_tup ?_ | refine s_lst ?_ | refine s_chain ?_ | refine s_truI ?_ | refine s_ki ?_ | refine s_sfld ?_ | refine s_fld ?_ | refine g_cons ?_ | refine g_nil ?_ | (refine g_name ?_; dsimp only [List.set]) | refine s_isD (by decide) (by assumption) ?_)
local macro_rules | `(tactic| tm_at "go") => `(tactic| repeat' (tm_at "s"))
variable {K : PySem.W.Frag} {C CE CM : Addr}
abbrev wS (s a : Addr) (y2 y3 : Option V) (p : Addr) (y5 : Option V) (b w : Addr) (y8 y9 y10 y11 : Option V) : L2.St := [some (.ref s), some (.ref a), y2, y3, some (.ref p), y5, some (.ref b), some (.ref w), y8, y9, y10, y11]
theorem parts_vals {G : Hp} {m : Nat} {gv gl : List Nat} {rs : List Rec} {p g ra ga : Addr} (h : Rp G (.tuple (partsD m gv rs gl)) (.ref p)) (hp : G p = some (.tup [.int (m : Int), .ref g, .ref ra, .ref ga])) : RpAll G (partsD m gv rs gl) [.int (m : Int), .ref g, .ref ra, .ref ga] := by
  obtain ⟨_, xs, e, h1, h2⟩ := rp_tup.mp h
  cases e
  rw [hp] at h1
  cases h1
  exact h2
theorem law_turn (T : LawTxt K C CM) {s a p b w dx g ra ga : Addr} {y2 y3 y5 y8 y9 y10 y11 : Option V} {G0 H0 G H : Hp} {m : Nat} {gv gl : List Nat} {rs : List Rec} {D : Ends} (st : Stp a G0 H0 G H) (kit : Kit m gv rs gl)
    (hp : Rp G (.tuple (partsD m gv rs gl)) (.ref p)) (hp0 : G p = some (.tup [.int (m : Int), .ref g, .ref ra, .ref ga])) (hb : H b = some (.ins C dx (cookF (.int (m : Int)) (.ref g) (.ref ra) (.ref ga)))) (hba : b ≠ a)
    (k : ∀ z5 z9 z10 z11 G' H', Stp a G0 H0 G' H' → Same G G' → H' b = some (.ins C dx (cookF (.int (m : Int)) (.ref g) (.ref ra) (.ref ga))) → D.nx (wS s a y2 y3 p z5 b w y8 z9 z10 z11) H') :
    t_lawL K C D (wS s a y2 y3 p y5 b w y8 y9 y10 y11) H := by
  unfold t_lawL
  tm_at "go"
  refine ⟨a, p, m, gv, rs, gl, G, rfl, st.hand, hp, kit, fun d0 d1 d2 d3 v0 v1 v2 v3 q G1 H1 c0 c1 c2 c3 s1 hq r0 r1 r2 r3 => ?_⟩
  have st1 := st.call s1
  have hb1 := s1.kp hb hba
  have u := s1.gg
  have hqH := s1.gh _ _ hq
  have gh1 := s1.gh
  tm_at "go"
  refine ⟨q, v0, v1, v2, v3, d0, d1, d2, d3, rfl, hqH, r0.up gh1, r1.up gh1, r2.up gh1, r3.up gh1, c1, c2, c3, fun H2 e2 => ?_⟩
  have g2 := gh1.trans e2
  tm_at "go"
  have hlen : lenD d2 ≤ 1000 := by
    cases d2 with
    | tuple ds => exact (szD_tup c2).1
    | _ => exact Nat.zero_le _
  refine ⟨q, v0, v1, v2, v3, d0, d1, d2, d3, rfl, .inl (e2 _ _ hqH), r0.up g2, r1.up g2, r2.up g2, r3.up g2, hlen, fun t ht p3 H3 hp3 e3 hp3' => ?_, fun hn p3 b2 dx2 H3 hb2 e3 hb2' hp3' => ?_⟩
  · have f3 := e2.trans e3
    have st3 := st1.more f3
    rw [ht]
    refine g_tup hp3' rfl ?_
    tm_at "go"
    refine ⟨rfl, ?_⟩
    show ∃ k, V.bl (!decide (V.str t = V.str t)) = .bl k ∧ _
    rw [decide_eq_true rfl]
    refine s_k (iteF ?_)
    tm_at "go"
    refine ⟨rfl, ?_⟩
    have n1 : ¬ (V.str t = V.non) := fun e => by cases e
    show ∃ k, V.bl (!decide (V.bl (decide (V.non = V.non)) = V.bl (!decide (V.str t = V.non)))) = .bl k ∧ _
    rw [decide_eq_false n1, show decide (V.non = V.non) = true from rfl]
    refine s_k (iteF ?_)
    tm_at "go"
    show if decide (V.str t = V.non) = true then _ else _
    rw [decide_eq_false n1]
    refine iteF ?_
    tm_at "go"
    exact k _ _ _ _ G1 H3 st3 u (f3 _ _ hb1)
  · have f3 := e2.trans e3
    have st3 := st1.more f3
    have g3 := gh1.trans f3
    obtain ⟨m', gv', rs', gl', rfl, rfl, rfl, rfl, good⟩ := bad_none hn
    have all1 : RpAll G1 (partsD m' gv' rs' gl') [v0, v1, v2, v3] := .cons r0 (.cons r1 (.cons r2 (.cons r3 .nil)))
    obtain rfl := rp_int.mp r0
    obtain ⟨ra2, _, rfl, _⟩ := rp_recs r2
    rw [hn]
    refine g_tup hp3' rfl ?_
    tm_at "go"
    refine ⟨rfl, ?_⟩
    refine s_k (iteF ?_)
    tm_at "go"
    refine ⟨rfl, ?_⟩
    have n1 : ¬ (V.ref b2 = V.non) := fun e => by cases e
    show ∃ k, V.bl (!decide (V.bl (decide (V.ref b2 = V.non)) = V.bl (!decide (V.non = V.non)))) = .bl k ∧ _
    rw [decide_eq_false n1]
    refine s_k (iteF ?_)
    tm_at "go"
    refine iteT ?_
    tm_at "go"
    have hb3 := f3 _ _ hb1
    refine ⟨b2, dx2, q, _, _, _, _, m', gv', rs', gl', _, rfl, hb2', good, all1.up g3, .inl (f3 _ _ hqH), all1.up g3, fun H4 e4 => ?_⟩
    have g4 := g3.trans e4
    tm_at "go"
    refine iteF ?_
    refine s_not (s_tB ?_)
    have hP4 : PartsAt H4 q m' rs' := ⟨_, ra2, .inl (e4 _ _ (f3 _ _ hqH)), rfl, rfl, (r2.up g4)⟩
    refine order_ok (C := C) (i := q) (j := q) rfl rfl (e4 _ _ hb2') (r2.up g4) hP4 good fun H5 e5 => ?_
    have g5 := g4.trans e5
    have f5 := (f3.trans e4).trans e5
    have hb5 := f5 _ _ hb1
    have hb25 := e5 _ _ (e4 _ _ hb2')
    have pv := parts_vals (hp.up u) (u _ _ hp0)
    refine s_k (iteF ?_)
    refine s_next ?_
    dsimp only
    generalize hE : PyData.eqvAll (partsD m gv rs gl) (partsD m' gv' rs' gl') = E
    have EQ : ∀ H6 (Q : VK), Same H5 H6 → (∀ H7, Same H6 H7 → Q (.bl E) H7) → rEqO K C (sp_Cookery_eq K C) E0 (.ref b) (.ref b2) H6 Q := fun H6 Q e6 q => by
      have := eq_yes T.it (e6 _ _ hb5) (e6 _ _ hb25) (pv.up (g5.trans e6)) (all1.up (g5.trans e6)) (Q := Q) fun H7 e7 => by
        rw [hE]
        exact q H7 e7
      exact this
    have last : ∀ H6, Same H5 H6 → (tIfS (tTest (tOp rNe (tOp (rEqO K C (sp_Cookery_eq K C) E0) (tVar 6) (tVar 11)) (tOp rEqP (tCB rLstF (tCons (tVar 4) tNil)) (tVar 9)))) (tRet (tC (.bl false))) tNext) D (wS s a y2 y3 p (some .non) b w y8 (some (.ref q)) (some .non) (some (.ref b2))) H6 := by
      intro H6 e6
      refine s_ifs (s_test (s_op (s_op (s_var rfl (s_var rfl (EQ H6 _ e6 fun H7 e7 => ?_))))))
      refine s_op (s_CB (s_cons (s_var rfl (s_nil ?_))))
      have e67 := e6.trans e7
      have g7 := g5.trans e67
      refine s_lstT (g7 _ _ (u _ _ hp0)) fun p8 hp8 => ?_
      have e8 := e67.trans (L2.Same.new (o := .lst [.int (m : Int), .ref g, .ref ra, .ref ga]) hp8)
      have g8 := g5.trans e8
      refine s_var rfl ?_
      refine ⟨.list (partsD m gv rs gl), .list (partsD m' gv' rs' gl'), Rp.lst upd_same (pv.up g8), Rp.lst (e8 _ _ (f5 _ _ hqH)) (all1.up g8), plain_parts, plain_parts, shaped_list can_parts depth_parts (by decide), shaped_list can_parts depth_parts (by decide), ?_⟩
      rw [show PyData.eqv (.list (partsD m gv rs gl)) (.list (partsD m' gv' rs' gl')) = E from hE]
      refine ⟨rfl, ?_⟩
      rw [decide_eq_true rfl]
      refine s_k (iteF ?_)
      refine s_next ?_
      exact k _ _ _ _ G1 _ (st1.more (f5.trans e8)) u ((f5.trans e8) _ _ hb1)
    refine s_seq (s_ifs (s_and (s_test (s_op (s_op (s_var rfl (s_var rfl (EQ H5 _ (.refl _) fun H6 e6 => ?_))))))))
    refine s_c (s_notB (s_k ?_))
    cases E with
    | true =>
      refine iteF (iteF ?_)
      refine s_next ?_
      exact last H6 e6
    | false =>
      refine iteT ?_
      refine s_test (s_op (s_op (s_var rfl (s_var rfl (EQ H6 _ e6 fun H7 e7 => ?_)))))
      refine s_c (s_notB (s_k (iteF ?_)))
      refine s_next ?_
      exact last H7 (e6.trans e7)
end Un
namespace Un
open PySem L2 PySem.Spec PyProof.Rows
local macro_rules | `(tactic| tm_at "s") => `(tactic| with_reducible first
  | refine s_seq ?_ | (refine s_asg ?_; dsimp only [List.set]) | refine s_asgG ?_ | refine g_sub ?_ | refine s_sl ?_ | refine s_noPart ?_ | refine s_part ?_ | refine s_bm ?_ | refine s_lstRg ?_ | refine s_tupRg ?_ | refine s_rg1 ?_ | refine s_rg2 ?_  | refine s_isB ?_ | refine s_notB ?_ | refine s_next ?_ | refine s_ret ?_ | refine s_drop ?_ | refine s_ifs ?_ | refine s_brk ?_ | refine s_cont ?_ | refine s_retN ?_
  | refine s_var rfl ?_ | refine s_c ?_ | refine s_op ?_ | refine s_cons ?_ | refine s_nil ?_ | refine s_call ?_ | refine s_CB ?_ | refine s_un ?_
  | refine s_test ?_ | refine s_tB ?_ | refine s_k ?_ | refine s_not ?_ | refine s_and ?_ | refine s_or ?_ | refine s_notV ?_ | refine s_andV ?_ | refine s_orV ?_ | refine s_if ?_
  | refine s_add ?_ | refine s_sub ?_ | refine s_lt ?_ | refine s_le ?_ | refine s_gt ?_ | refine s_ge ?_ | refine s_eqI ?_ | refine s_neI ?_ | refine s_band ?_ | refine s_bor ?_ | refine s_neg ?_ | refine s_inv ?_
  | refine s_isN ?_ | refine s_notN ?_ | refine s_int1 ?_ | refine s_abs ?_ | refine s_min2 ?_ | refine s_max2 ?_
  | refine s_tup ?_ | refine s_lst ?_ | refine s_chain ?_ | refine s_truI ?_ | refine s_ki ?_ | refine s_sfld ?_ | refine s_fld ?_ | refine g_cons ?_ | refine g_nil ?_ | (refine g_name ?_; dsimp only [List.set]) | refine s_isD (by decide) (by assumption) ?_)
local macro_rules | `(tactic| tm_at "go") => `(tactic| repeat' (tm_at "s"))
variable {K : PySem.W.Frag} {C CE CM CN : Addr}
theorem badM_const : badM (.int 2) (arrsD [(0, 1)]) (lotD [1]) = none := by
  have h1 : decP (ArrsOk (toI (.int 2)) (arrsD [(0, 1)]) ∧ lenD (arrsD [(0, 1)]) ≤ 60) = true := decP_true ⟨⟨[(0, 1)], rfl, fun e he => by
    rw [List.mem_singleton.mp he]
    exact ⟨by decide, by decide, by decide⟩⟩, by decide⟩
  have h2 : decP (MGoalsOk (toI (.int 2)) (toEs (arrsD [(0, 1)])) (lotD [1])) = true := decP_true ⟨[1], rfl, ⟨by simp, fun n hn => by
    rw [List.mem_singleton.mp hn]
    decide⟩, by simp, by simp, fun R hR i hi => by
    rw [toEs_arrs] at hR
    rw [bit_mk] at hi
    have e := List.mem_singleton.mp (of_decide_eq_true hi)
    subst e
    exact hR.closed 0 ([0], 1) rfl (by decide) (by decide) fun n hn => by
      rw [List.mem_singleton.mp hn]
      exact hR.base 0 (by decide)⟩
  unfold badM
  rw [h1, h2]
  rfl
theorem law_rest (T : LawTxt K C CM) {s a p b w dx g ra ga : Addr} {y2 y3 y5 y8 y9 y10 y11 : Option V} {G H : Hp} {m : Nat} {gv gl : List Nat} {rs : List Rec} {Q : VK} (hh : HandAt G H a) (kit : Kit m gv rs gl)
    (hp : Rp G (.tuple (partsD m gv rs gl)) (.ref p)) (hp0 : G p = some (.tup [.int (m : Int), .ref g, .ref ra, .ref ga])) (hb : H b = some (.ins C dx (cookF (.int (m : Int)) (.ref g) (.ref ra) (.ref ga)))) (hba : b ≠ a)
    (k : ∀ H', Q (.bl true) H') : t_lawF K C { nx := fun _ H' => Q .non H', rt := Q } (wS s a y2 y3 p y5 b w y8 y9 y10 y11) H := by
  unfold t_lawF
  refine s_seq ?_
  refine s_forR 5 (fun i σ H1 => ∃ (z5 z8 z9 z10 z11 : Option V) (G1 : Hp), σ = wS s a y2 y3 p z5 b w z8 z9 z10 z11 ∧ Stp a G H G1 H1 ∧ H1 b = some (.ins C dx (cookF (.int (m : Int)) (.ref g) (.ref ra) (.ref ga))))
    (by decide) ⟨_, _, _, _, _, G, rfl, .refl hh, hb⟩ ?_ ?_ fun Q' h => s_cons (s_c (s_nil h))
  · rintro i σ H1 hi ⟨z5, z8, z9, z10, z11, G1, rfl, st, hb1⟩
    refine g_slot ?_
    refine law_turn T (y8 := some (.int (i : Nat))) st kit (hp.up st.gg) (st.gg _ _ hp0) hb1 hba fun z5 z9 z10 z11 G2 H2 st2 _ hb2 => ?_
    exact ⟨_, _, _, _, _, G2, rfl, st2, hb2⟩
  · rintro σ H1 ⟨z5, z8, z9, z10, z11, G1, rfl, st, hb1⟩
    tm_at "go"
    exact ⟨b, dx, p, _, _, _, _, m, gv, rs, gl, _, rfl, hb1, kit.good, (parts_vals hp hp0).up (st.gg.trans st.gh), .inr (st.gh _ _ (st.gg _ _ hp0)), (parts_vals hp hp0).up (st.gg.trans st.gh), fun H' _ => k H'⟩
theorem recs_len {rs : List Rec} (h : rs.length ≤ 40) : lenD (recsD rs) ≤ 1000 := by
  show (rs.map recD).length ≤ 1000
  rw [List.length_map]
  omega
theorem law_main (T : LawTxt K C CM) {s a : Addr} {G H : Hp} {Q : VK} {D1 : Ends} (hh : HandAt G H a) {Tt R : Nat} (hT : 5 ≤ Tt) (hT2 : Tt ≤ 40) (hR : R ≤ 40) (k : ∀ H', Q (.bl true) H') :
    (tSeq (tAsg (tCall sp__law_kitchen [] E0 (tCons (tVar 1) (tCons (tVar 2) (tCons (tVar 3) tNil)))) (gName 4)) (t_lawM K C CE CM CN)) { nx := fun _ H' => Q .non H', rt := Q } [some (.ref s), some (.ref a), some (.int (Tt : Int)), some (.int (R : Int)), none, none, none, none, none, none, none, none] H := by
  unfold t_lawM
  tm_at "go"
  refine ⟨a, Tt, R, G, rfl, hh, hT, hT2, hR, fun m gv rs gl p G2 H2 kit s2 hp => ?_⟩
  obtain ⟨g, ra, ga, hp0, hg, hra, hga⟩ := parts_at hp
  have good := kit.good
  have pv := parts_vals hp hp0
  have lg : Rp G2 (lotD gv) (.ref g) := rp_lot.mpr ⟨g, rfl, hg⟩
  have lga : Rp G2 (lotD gl) (.ref ga) := rp_lot.mpr ⟨ga, rfl, hga⟩
  have gh := s2.gh
  tm_at "go"
  refine ⟨p, _, _, _, _, _, _, _, _, rfl, .inr (gh _ _ hp0), Rp.int, lg.up gh, hra.up gh, lga.up gh, recs_len kit.rsl, fun t ht => ?_, fun _ p3 b dx H3 hb e3 hb3 hp3 => ?_⟩
  · rw [good.bad] at ht
    cases ht
  have hba := s2.hand.ne hb
  have s3 := (Stp.refl s2.hand).more e3
  have g3 := gh.trans e3
  refine g_tup hp3 rfl ?_
  tm_at "go"
  refine iteF ?_
  tm_at "go"
  have n1 : ¬ (V.ref b = V.non) := fun e => by cases e
  refine s_ited (fun h => absurd h n1) fun _ => ?_
  tm_at "go"
  refine ⟨b, dx, p, _, _, _, _, m, gv, rs, gl, _, rfl, hb3, good, pv.up g3, .inr (g3 _ _ hp0), pv.up g3, fun H4 e4 => ?_⟩
  have f4 := e3.trans e4
  have g4 := gh.trans f4
  tm_at "go"
  refine iteF ?_
  refine s_next ?_
  dsimp only
  refine s_seq (s_ifs (s_not (s_tB ?_)))
  have hP4 : PartsAt H4 p m rs := ⟨_, ra, .inr (g4 _ _ hp0), rfl, rfl, hra.up g4⟩
  refine order_ok (C := C) (i := p) (j := p) rfl rfl (e4 _ _ hb3) (hra.up g4) hP4 good fun H5 e5 => ?_
  have f5 := f4.trans e5
  have g5 := gh.trans f5
  have hb5 := e5 _ _ (e4 _ _ hb3)
  refine s_k (iteF ?_)
  refine s_next ?_
  dsimp only
  refine s_seq (s_asg ?_)
  show tCons _ _ [some (.ref s), some (.ref a), some (.int (Tt : Int)), some (.int (R : Int)), some (.ref p), some .non, some (.ref b), none, none, none, none, none] H5 _
  refine s_cons (s_op (s_var rfl (s_c (s_ixT (g5 _ _ hp0) (v := .int (m : Int)) rfl (s_cons (s_op (s_var rfl (s_c (s_ixT (g5 _ _ hp0) (v := .ref g) rfl (s_cons (s_op (s_var rfl (s_c (s_ixT (g5 _ _ hp0) (v := .ref ra) rfl (s_cons (s_op (s_var rfl (s_c (s_ixT (g5 _ _ hp0) (v := .ref ga) rfl (s_nil ?_))))))))))))))))))))
  intro x dx2 hx hdx hne
  have e6 : Same H5 (upd (upd H5 dx2 (.own x)) x (.ins C dx2 [])) := (L2.Same.new hdx).trans (L2.Same.new (by rw [upd_ne (Ne.symm hne)]; exact hx))
  have g6 := g5.trans e6
  refine ⟨x, dx2, _, _, _, _, _, _, _, _, rfl, upd_same, Rp.int, lg.up g6, hra.up g6, lga.up g6, recs_len kit.rsl, fun t ht => ?_, fun _ H6 hk hx6 => ⟨rfl, ?_⟩⟩
  · rw [good.bad] at ht
    cases ht
  have e56 : Same H5 H6 := fun c o hc => hk c o (ne_of_none hc hx) (e6 _ _ hc)
  have f6 := f5.trans e56
  have g6' := gh.trans f6
  have hb6 := e56 _ _ hb5
  dsimp only [List.set]
  refine s_seq (s_ifs (s_or (s_test (s_op (s_op (s_var rfl (s_var rfl (eq_yes T.it hb6 hx6 (pv.up g6') (pv.up g6') fun H7 e7 => ?_))))))))
  rw [eqvAll_self _ plain_parts]
  have f7 := f6.trans e7
  have hb7 := e7 _ _ hb6
  refine s_c (s_notB (s_k (iteF ?_)))
  refine s_or (s_test (s_op (s_op (s_var rfl (s_var rfl (eq_no hb7 (.base (.tup ((gh.trans f7) _ _ hp0))) T.n1 T.k1 (s_c (s_notB (s_k (iteF ?_)))))))))) 
  refine s_test (s_op (s_op (s_var rfl (s_c (eq_no hb7 (.base .non) T.n2 T.k2 (s_c (s_notB (s_k (iteF ?_)))))))))
  refine s_next ?_
  dsimp only
  refine s_seq (s_ifs (s_test (s_op (s_op (s_var rfl ?_)))))
  show tCons _ _ (wS s a (some (.int (Tt : Int))) (some (.int (R : Int))) p (some .non) b x none none none none) H7 _
  have n8 : ([V.int 0, V.int 1] : List V).length ≤ sizeLine := by rw [sizeLine_eq]; decide
  have n9 : ∀ v : V, ([v] : List V).length ≤ sizeLine := fun v => by rw [sizeLine_eq]; simp
  refine s_cons (s_c (s_cons (s_tup (s_cons (s_tup (s_cons (s_c (s_cons (s_c (s_nil ⟨n8, fun q1 hq1 => s_nil ⟨n9 _, fun q2 hq2 => ?_⟩⟩)))))))))) 
  have e8 : Same H7 (upd H7 q1 (.tup [.int 0, .int 1])) := L2.Same.new hq1
  have hq21 : q1 ≠ q2 := fun e => by rw [← e, upd_same] at hq2; cases hq2
  have e9 := e8.trans (L2.Same.new (o := .tup [.ref q1]) hq2)
  have hm1 : Rp (upd (upd H7 q1 (.tup [.int 0, .int 1])) q2 (.tup [.ref q1])) (.tuple [.tuple [.int 0, .int 1]]) (.ref q2) :=
    Rp.tup upd_same (.cons (Rp.tup (by rw [upd_ne hq21, upd_same]) (.cons Rp.int (.cons Rp.int .nil))) .nil)
  generalize upd (upd H7 q1 (.tup [.int 0, .int 1])) q2 (.tup [.ref q1]) = H9 at e9 hm1
  refine s_cons (s_tup (s_cons (s_c (s_nil ⟨n9 _, fun q3 hq3 => s_nil ?_⟩))))
  have e10 : Same H9 (upd H9 q3 (.tup [.int 1])) := L2.Same.new hq3
  have hm2 : Rp (upd H9 q3 (.tup [.int 1])) (.tuple [.int 1]) (.ref q3) := Rp.tup upd_same (.cons Rp.int .nil)
  generalize upd H9 q3 (.tup [.int 1]) = H10 at e10 hm2
  intro x2 dx3 hx2 hdx3 hne2
  have e11 : Same H10 (upd (upd H10 dx3 (.own x2)) x2 (.ins CM dx3 [])) := (L2.Same.new hdx3).trans (L2.Same.new (by rw [upd_ne (Ne.symm hne2)]; exact hx2))
  refine ⟨x2, dx3, .int 2, .ref q2, .ref q3, .int 2, arrsD [(0, 1)], lotD [1], rfl, upd_same, Rp.int, hm1.up (e10.trans e11), hm2.up e11, rfl, rfl, fun t ht => ?_, fun _ l H12 _ _ hk2 _ hx12 => ⟨rfl, ?_⟩⟩
  · rw [badM_const] at ht
    cases ht
  have e12 : Same H10 H12 := fun c o hc => hk2 c o (ne_of_none hc hx2) (e11 _ _ hc)
  have f12 := ((f7.trans e9).trans e10).trans e12
  have hb12 := e12 _ _ (e10 _ _ (e9 _ _ hb7))
  refine eq_no hb12 (T.im.ty hx12) T.n3 T.k3 ?_
  refine s_c (s_notB (s_k (iteF ?_)))
  refine s_next ?_
  have s12 := (Stp.refl s2.hand).more f12
  exact law_rest T s12.hand kit hp hp0 hb12 hba k
theorem law_pick {d : Nat} (hd : d < 4) {t0 t1 t2 t3 : Addr} {H : Hp} (h0 : H t0 = some (.tup [.int 5, .int 8])) (h1 : H t1 = some (.tup [.int 5, .int 5])) (h2 : H t2 = some (.tup [.int 9, .int 14])) (h3 : H t3 = some (.tup [.int 40, .int 40])) :
    ∃ t Tt R : Nat, atI [V.ref t0, .ref t1, .ref t2, .ref t3] (d : Int) = some (.ref t) ∧ H t = some (.tup [.int (Tt : Int), .int (R : Int)]) ∧ 5 ≤ Tt ∧ Tt ≤ 40 ∧ R ≤ 40 := by
  have : d = 0 ∨ d = 1 ∨ d = 2 ∨ d = 3 := by omega
  rcases this with rfl | rfl | rfl | rfl
  · exact ⟨t0, 5, 8, rfl, h0, by decide, by decide, by decide⟩
  · exact ⟨t1, 5, 5, rfl, h1, by decide, by decide, by decide⟩
  · exact ⟨t2, 9, 14, rfl, h2, by decide, by decide, by decide⟩
  · exact ⟨t3, 40, 40, rfl, h3, by decide, by decide, by decide⟩
theorem pure_law (T : LawTxt K C CM) (vs : List V) (H : Hp) (Q : VK) (E : XK) (h : sp_law K vs H Q E) : t_law K C CE CM CN { nx := fun _ H' => Q .non H', rt := Q } (start ["_law_script", "_law_hand_here", "_law_things", "_law_recipes", "_law_parts", "_law_refused", "_law_book", "_law_twin", "_law_turn", "_law_odd", "_law_due", "_law_other"] vs) H := by
  obtain ⟨s, ns, rfl, hs, k⟩ := h
  show t_law K C CE CM CN _ [some (.ref s), none, none, none, none, none, none, none, none, none, none, none] H
  unfold t_law
  tm_at "go"
  refine ⟨s, ns, rfl, hs, fun a G1 H1 ha hg hh => ?_⟩
  tm_at "go"
  have n2 : ∀ u v : V, ([u, v] : List V).length ≤ sizeLine := fun u v => by rw [sizeLine_eq]; simp
  refine ⟨n2 _ _, fun t0 h0 => ?_⟩
  have s0 := (Stp.refl hh).lay (o := .tup [.int 5, .int 8]) h0
  have k0 : (upd G1 t0 (.tup [.int 5, .int 8])) t0 = some (.tup [.int 5, .int 8]) := upd_same
  generalize upd G1 t0 (.tup [.int 5, .int 8]) = G2 at s0 k0
  tm_at "go"
  refine ⟨n2 _ _, fun t1 h1 => ?_⟩
  have s1 := s0.lay (o := .tup [.int 5, .int 5]) h1
  have k1 : (upd G2 t1 (.tup [.int 5, .int 5])) t1 = some (.tup [.int 5, .int 5]) := upd_same
  have u1 : Same G2 (upd G2 t1 (.tup [.int 5, .int 5])) := L2.Same.new (gfree s0.gh h1)
  generalize upd G2 t1 (.tup [.int 5, .int 5]) = G3 at s1 k1 u1
  tm_at "go"
  refine ⟨n2 _ _, fun t2 h2 => ?_⟩
  have s2 := s1.lay (o := .tup [.int 9, .int 14]) h2
  have k2 : (upd G3 t2 (.tup [.int 9, .int 14])) t2 = some (.tup [.int 9, .int 14]) := upd_same
  have u2 : Same G3 (upd G3 t2 (.tup [.int 9, .int 14])) := L2.Same.new (gfree s1.gh h2)
  generalize upd G3 t2 (.tup [.int 9, .int 14]) = G4 at s2 k2 u2
  tm_at "go"
  refine ⟨n2 _ _, fun t3 h3 => ?_⟩
  have s3 := s2.lay (o := .tup [.int 40, .int 40]) h3
  have k3 : (upd G4 t3 (.tup [.int 40, .int 40])) t3 = some (.tup [.int 40, .int 40]) := upd_same
  have u3 : Same G4 (upd G4 t3 (.tup [.int 40, .int 40])) := L2.Same.new (gfree s2.gh h3)
  generalize upd G4 t3 (.tup [.int 40, .int 40]) = G5 at s3 k3 u3
  tm_at "go"
  refine ⟨by rw [sizeLine_eq]; simp, fun p4 h4 => ?_⟩
  have s4 := s3.lay (o := .lst [.ref t0, .ref t1, .ref t2, .ref t3]) h4
  have u4 : Same G5 (upd G5 p4 (.lst [.ref t0, .ref t1, .ref t2, .ref t3])) := L2.Same.new (gfree s3.gh h4)
  have k4 : (upd G5 p4 (.lst [.ref t0, .ref t1, .ref t2, .ref t3])) p4 = some (.lst [.ref t0, .ref t1, .ref t2, .ref t3]) := upd_same
  generalize upd G5 p4 (.lst [.ref t0, .ref t1, .ref t2, .ref t3]) = G6 at s4 u4 k4
  tm_at "go"
  refine ⟨a, 4, G6, rfl, s4.hand, by decide, by decide, fun d H7 hd s5 => ?_⟩
  have up := s5.gh
  obtain ⟨t, Tt, R, e1, e2, hT, hT2, hR⟩ := law_pick (d := d) (by omega) (up _ _ (u4 _ _ (u3 _ _ (u2 _ _ (u1 _ _ k0))))) (up _ _ (u4 _ _ (u3 _ _ (u2 _ _ k1)))) (up _ _ (u4 _ _ (u3 _ _ k2))) (up _ _ (u4 _ _ k3))
  refine s_ixL (up _ _ k4) e1 ?_
  refine g_tup e2 rfl ?_
  refine g_cons (g_slot (g_cons (g_slot (g_nil ?_))))
  exact law_main (D1 := { nx := fun _ H' => Q .non H', rt := Q }) T s5.hand hT hT2 hR k
end Un
namespace Un
open PySem L2 PySem.Spec PyProof.Rows
abbrev kI (t : Nat) : Key := .inl (t : Int)
/-- a dict of lists of heads, by tails -/
structure Heads (H0 : Hp) (d : Addr) (f : Nat → List Nat) (n : Nat) (H : Hp) (kvs : List (Key × V)) : Prop where
  at_ : H d = some (.dK kvs)
  len : kvs.length ≤ n
  some_ : ∀ (t : Nat) v, valV kvs (kI t) = some v → ∃ p, v = .ref p ∧ H p = some (.lst (vN (f t))) ∧ H0 p = none ∧ p ≠ d
  none_ : ∀ t : Nat, valV kvs (kI t) = none → f t = []
  inj : ∀ (t t' : Nat) p, valV kvs (kI t) = some (.ref p) → valV kvs (kI t') = some (.ref p) → t = t'
theorem Heads.up {H0 H H' : Hp} {d : Addr} {f : Nat → List Nat} {n : Nat} {kvs : List (Key × V)} (h : Heads H0 d f n H kvs) (e : Same H H') : Heads H0 d f n H' kvs :=
  ⟨e _ _ h.at_, h.len, fun t v hv => by
    obtain ⟨p, q1, q2, q3, q4⟩ := h.some_ t v hv
    exact ⟨p, q1, e _ _ q2, q3, q4⟩, h.none_, h.inj⟩
theorem Heads.nil {H0 H : Hp} {d : Addr} (h : H d = some (.dK [])) : Heads H0 d (fun _ => []) 0 H [] :=
  { at_ := h
    len := Nat.le_refl _
    some_ := fun t v hv => nomatch (show (none : Option V) = some v from hv)
    none_ := fun _ _ => rfl
    inj := fun t t' p hv _ => nomatch (show (none : Option V) = some (.ref p) from hv) }
/-- one more head behind a tail that is there -/
theorem Heads.app {H0 H : Hp} {d p : Addr} {f : Nat → List Nat} {n t h : Nat} {kvs : List (Key × V)} (S : Heads H0 d f n H kvs) (hv : valV kvs (kI t) = some (.ref p)) :
    Heads H0 d (fun x => if x = t then f t ++ [h] else f x) n (upd H p (.lst (vN (f t) ++ [.int (h : Int)]))) kvs := by
  obtain ⟨p', e, hp, hp0, hpd⟩ := S.some_ t _ hv
  cases e
  refine ⟨by rw [upd_ne (Ne.symm hpd)]; exact S.at_, S.len, fun x v hx => ?_, fun x hx => ?_, S.inj⟩
  · obtain ⟨q, e1, hq, hq0, hqd⟩ := S.some_ x v hx
    subst e1
    refine ⟨q, rfl, ?_, hq0, hqd⟩
    by_cases e : x = t
    · subst e
      rw [hv] at hx
      cases hx
      rw [upd_same, if_pos rfl]
      unfold vN
      rw [List.map_append]
      rfl
    · have hne : q ≠ p := fun e2 => by
        subst e2
        exact e (S.inj x t q hx hv)
      rw [upd_ne hne, if_neg e]
      exact hq
  · by_cases e : x = t
    · subst e
      rw [hv] at hx
      cases hx
    · show (if x = t then _ else f x) = []
      rw [if_neg e]
      exact S.none_ x hx
/-- a tail that is new -/
theorem Heads.add {H0 H : Hp} {d z : Addr} {f : Nat → List Nat} {n t : Nat} {kvs : List (Key × V)} (S : Heads H0 d f n H kvs) (hv : valV kvs (kI t) = none) (hz : H z = none) (hz0 : H0 z = none) :
    Heads H0 d f (n + 1) (upd (upd H z (.lst [])) d (.dK (putK kvs (kI t) (.ref z)))) (putK kvs (kI t) (.ref z)) := by
  have hzd : z ≠ d := fun e => by rw [e, S.at_] at hz; cases hz
  have kne : ∀ x : Nat, kI x = kI t ↔ x = t := fun x => ⟨fun e => by
    have := Sum.inl.inj e
    omega, fun e => by rw [e]⟩
  refine ⟨upd_same, by rw [putK_new _ hv, List.length_append]; have := S.len; show kvs.length + 1 ≤ n + 1; omega, fun x v hx => ?_, fun x hx => ?_, fun x x' p hx hx' => ?_⟩
  · rw [valV_put] at hx
    by_cases e : x = t
    · rw [if_pos ((kne x).mpr e)] at hx
      cases hx
      refine ⟨z, rfl, ?_, hz0, hzd⟩
      rw [upd_ne hzd, upd_same, e, S.none_ t hv]
      rfl
    · rw [if_neg fun h => e ((kne x).mp h)] at hx
      obtain ⟨q, e1, hq, hq0, hqd⟩ := S.some_ x v hx
      refine ⟨q, e1, ?_, hq0, hqd⟩
      rw [upd_ne hqd, upd_ne (ne_of_none hq hz)]
      exact hq
  · rw [valV_put] at hx
    by_cases e : x = t
    · rw [if_pos ((kne x).mpr e)] at hx
      cases hx
    · rw [if_neg fun h => e ((kne x).mp h)] at hx
      exact S.none_ x hx
  · rw [valV_put] at hx hx'
    have nz : ∀ y, valV kvs (kI y) ≠ some (.ref z) := fun y hy => by
      obtain ⟨q, e1, hq, _⟩ := S.some_ y _ hy
      cases e1
      rw [hz] at hq
      cases hq
    by_cases e : x = t
    · by_cases e' : x' = t
      · omega
      · rw [if_pos ((kne x).mpr e)] at hx
        rw [if_neg fun h => e' ((kne x').mp h)] at hx'
        cases hx
        exact absurd hx' (nz x')
    · rw [if_neg fun h => e ((kne x).mp h)] at hx
      by_cases e' : x' = t
      · rw [if_pos ((kne x').mpr e')] at hx'
        cases hx'
        exact absurd hx (nz x)
      · rw [if_neg fun h => e' ((kne x').mp h)] at hx'
        exact S.inj x x' p hx hx'
theorem Heads.mono {H0 H : Hp} {d : Addr} {f : Nat → List Nat} {n m : Nat} {kvs : List (Key × V)} (S : Heads H0 d f n H kvs) (h : n ≤ m) : Heads H0 d f m H kvs := ⟨S.at_, Nat.le_trans S.len h, S.some_, S.none_, S.inj⟩
/-- which heads stand behind a tail, of the first n arrows -/
def HF (es : List Arr) (L B n : Nat) (f : Nat → List Nat) : Prop := (∀ t h, h ∈ f t ↔ ∃ k, k < n ∧ es[k]? = some (t, h) ∧ L.testBit h = true ∧ B.testBit k = false) ∧ ∀ t, (f t).length ≤ n
theorem HF.nil {es : List Arr} {L B : Nat} : HF es L B 0 (fun _ => []) := ⟨fun t h => ⟨fun h => (nomatch h), fun ⟨k, hk, _⟩ => absurd hk (Nat.not_lt_zero _)⟩, fun _ => Nat.le_refl _⟩
theorem HF.skip {es : List Arr} {L B n : Nat} {f : Nat → List Nat} {e : Arr} (S : HF es L B n f) (he : es[n]? = some e) (hn : ¬ (L.testBit e.2 = true ∧ B.testBit n = false)) : HF es L B (n + 1) f := by
  refine ⟨fun t h => (S.1 t h).trans ⟨fun ⟨k, q1, q2⟩ => ⟨k, by omega, q2⟩, fun ⟨k, q1, q2, q3, q4⟩ => ?_⟩, fun t => by have := S.2 t; omega⟩
  by_cases e2 : k = n
  · subst e2
    rw [he] at q2
    cases q2
    exact absurd ⟨q3, q4⟩ hn
  · exact ⟨k, by omega, q2, q3, q4⟩
theorem HF.put {es : List Arr} {L B n t h : Nat} {f : Nat → List Nat} (S : HF es L B n f) (he : es[n]? = some (t, h)) (hL : L.testBit h = true) (hB : B.testBit n = false) : HF es L B (n + 1) (fun x => if x = t then f t ++ [h] else f x) := by
  refine ⟨fun x y => ?_, fun x => ?_⟩
  · constructor
    · intro hy
      have hy' : y ∈ (if x = t then f t ++ [h] else f x) := hy
      by_cases e : x = t
      · subst e
        rw [if_pos rfl] at hy'
        rcases List.mem_append.mp hy' with hy' | hy'
        · obtain ⟨k, q1, q2⟩ := (S.1 x y).mp hy'
          exact ⟨k, by omega, q2⟩
        · rw [List.mem_singleton.mp hy']
          exact ⟨n, by omega, he, hL, hB⟩
      · rw [if_neg e] at hy'
        obtain ⟨k, q1, q2⟩ := (S.1 x y).mp hy'
        exact ⟨k, by omega, q2⟩
    · rintro ⟨k, q1, q2, q3, q4⟩
      show y ∈ (if x = t then f t ++ [h] else f x)
      by_cases ek : k = n
      · subst ek
        rw [he] at q2
        cases q2
        rw [if_pos rfl]
        exact List.mem_append_right _ (List.mem_singleton.mpr rfl)
      · have := (S.1 x y).mpr ⟨k, by omega, q2, q3, q4⟩
        by_cases e : x = t
        · subst e
          rw [if_pos rfl]
          exact List.mem_append_left _ this
        · rw [if_neg e]
          exact this
  · show (if x = t then f t ++ [h] else f x).length ≤ n + 1
    by_cases e : x = t
    · rw [if_pos e, List.length_append]
      have := S.2 t
      show (f t).length + 1 ≤ n + 1
      omega
    · rw [if_neg e]
      have := S.2 x
      omega
theorem arr_at {H : Hp} {es : List Arr} {v : V} (h : Rp H (arrsD es) v) : ∃ a xs, v = .ref a ∧ H a = some (.tup xs) ∧ xs.length = es.length ∧ ∀ (i : Nat) (x : V), xs[i]? = some x → ∃ (e : Arr) (b : Addr), es[i]? = some e ∧ x = V.ref b ∧ H b = some (.tup [.int (e.1 : Int), .int (e.2 : Int)]) := by
  obtain ⟨a, xs, rfl, ha, hr⟩ := rp_tup.mp h
  refine ⟨a, xs, rfl, ha, by rw [hr.length, List.length_map], fun i x hx => ?_⟩
  obtain ⟨d, h1, h2⟩ := hr.get hx
  rw [List.getElem?_map] at h1
  obtain ⟨e, he, rfl⟩ := Option.map_eq_some_iff.mp h1
  obtain ⟨b, ys, rfl, hb, hy⟩ := rp_tup.mp h2
  obtain ⟨_, _, rfl, q1, hy⟩ := rpAll_cons.mp hy
  obtain ⟨_, _, rfl, q2, hy⟩ := rpAll_cons.mp hy
  obtain rfl := rpAll_nil.mp hy
  obtain rfl := rp_int.mp q1
  obtain rfl := rp_int.mp q2
  exact ⟨e, b, he, rfl, hb⟩
end Un
namespace Un
open PySem L2 PySem.Spec PyProof.Rows
def t_led2 (K : PySem.W.Frag) : TS :=
  (tSeq (tAsg (tVar 1) (gName 8))
    (tSeq (tAsg (tCB rLstF (tCons (tCall sp_lot_of [] E0 (tCons (tVar 1) tNil)) tNil)) (gName 9))
    (tSeq (tWhile (tTest (tOp rGtI (tCB rLenF (tCons (tVar 9) tNil)) (tC (.int 0))))
    (tFor (iList K (tDGet2 (tVar 4) (tBM0 K "list" rPop (tVar 9)) (tLst tNil))) (gName 7)
    (tIfS (tNot (tTruI (tOp rAndI (tOp rShrI (tVar 8) (tVar 7)) (tC (.int 1))))) (tSeq (tAsg (tOp rOrI (tVar 8) (tOp rShlI (tC (.int 1)) (tVar 7))) (gName 8))
    (tDrop (tBM K "list" rAppend (tVar 9) (tCons (tVar 7) tNil)))) tNext)))
    (tRet (tVar 8)))))
/-- led_to: 0 arrows, 1 begin, 2 let, 3 barred, 4 heads, 5 arrow, 6 tail, 7 head, 8 reached, 9 waiting -/
def t_led_to (K : PySem.W.Frag) : TS :=
  (tSeq (tAsg tDNewK (gName 4))
    (tSeq (tFor (iEnumT K (tCons (tVar 0) tNil)) (gTup K 2 (gCons (gName 5) (gCons (gTup K 2 (gCons (gName 6) (gCons (gName 7) gNil))) gNil)))
    (tIfS (tAnd (tTruI (tOp rAndI (tOp rShrI (tVar 2) (tVar 7)) (tC (.int 1)))) (tNot (tTruI (tOp rAndI (tOp rShrI (tVar 3) (tVar 5)) (tC (.int 1)))))) (tDrop (tBM K "list" rAppend (tDSetd (tVar 4) (tVar 6) (tLst tNil)) (tCons (tVar 7) tNil))) tNext))
    (t_led2 K)))
end Un
namespace Un
open PySem L2 PySem.Spec PyProof.Rows
local macro_rules | `(tactic| tm_at "s") => `(tactic| with_reducible first
  | refine s_seq ?_ | (refine s_asg ?_; dsimp only [List.set]) | refine s_asgG ?_ | refine g_sub ?_ | refine s_sl ?_ | refine s_noPart ?_ | refine s_part ?_ | refine s_bm ?_ | refine s_lstRg ?_ | refine s_tupRg ?_ | refine s_rg1 ?_ | refine s_rg2 ?_  | refine s_isB ?_ | refine s_notB ?_ | refine s_next ?_ | refine s_ret ?_ | refine s_drop ?_ | refine s_ifs ?_ | refine s_brk ?_ | refine s_cont ?_ | refine s_retN ?_
  | refine s_var rfl ?_ | refine s_c ?_ | refine s_op ?_ | refine s_cons ?_ | refine s_nil ?_ | refine s_call ?_ | refine s_CB ?_ | refine s_un ?_
  | refine s_test ?_ | refine s_tB ?_ | refine s_k ?_ | refine s_not ?_ | refine s_and ?_ | refine s_or ?_ | refine s_notV ?_ | refine s_andV ?_ | refine s_orV ?_ | refine s_if ?_
  | refine s_add ?_ | refine s_sub ?_ | refine s_lt ?_ | refine s_le ?_ | refine s_gt ?_ | refine s_ge ?_ | refine s_eqI ?_ | refine s_neI ?_ | refine s_band ?_ | refine s_bor ?_ | refine s_neg ?_ | refine s_inv ?_
  | refine s_isN ?_ | refine s_notN ?_ | refine s_int1 ?_ | refine s_abs ?_ | refine s_min2 ?_ | refine s_max2 ?_
  | refine s_tup ?_ | refine s_lst ?_ | refine s_chain ?_ | refine s_truI ?_ | refine s_ki ?_ | refine s_sfld ?_ | refine s_fld ?_ | refine g_cons ?_ | refine g_nil ?_ | (refine g_name ?_; dsimp only [List.set]) | refine s_isD (by decide) (by assumption) ?_)
local macro_rules | `(tactic| tm_at "go") => `(tactic| repeat' (tm_at "s"))
variable {K : PySem.W.Frag}
theorem led_turn {D : Ends} {a d b p : Addr} {es : List Arr} {T L B i : Nat} {e : Arr} {H H1 : Hp} {f : Nat → List Nat} {kvs : List (Key × V)} {y5 y6 y7 : Option V} (e1 : Same H H1) (S : Heads H d f i H1 kvs) (F : HF es L B i f) (he : es[i]? = some e) (hb : H b = some (.tup [.int (e.1 : Int), .int (e.2 : Int)])) (hp : H1 p = none) (hi : i ≤ 1000) (hd : H d = none)
    (k : ∀ H2 f' kvs' z5 z6 z7, Same H H2 → Heads H d f' (i + 1) H2 kvs' → HF es L B (i + 1) f' → D.nx [some (.ref a), some (.int (T : Int)), some (.int (L : Int)), some (.int (B : Int)), some (.ref d), z5, z6, z7, none, none] H2) :
    (gTup K 2 (gCons (gName 5) (gCons (gTup K 2 (gCons (gName 6) (gCons (gName 7) gNil))) gNil))) (.ref p) [some (.ref a), some (.int (T : Int)), some (.int (L : Int)), some (.int (B : Int)), some (.ref d), y5, y6, y7, none, none] (upd H1 p (.tup [.int (i : Nat), .ref b])) fun σ2 H2 =>
      (tIfS (tAnd (tTruI (tOp rAndI (tOp rShrI (tVar 2) (tVar 7)) (tC (.int 1)))) (tNot (tTruI (tOp rAndI (tOp rShrI (tVar 3) (tVar 5)) (tC (.int 1)))))) (tDrop (tBM K "list" rAppend (tDSetd (tVar 4) (tVar 6) (tLst tNil)) (tCons (tVar 7) tNil))) tNext) D σ2 H2 := by
  have e2 : Same H1 (upd H1 p (.tup [.int (i : Nat), .ref b])) := L2.Same.new hp
  have f2 := e1.trans e2
  have S2 := S.up e2
  refine g_tup upd_same rfl ?_
  refine g_cons (g_slot (g_cons (g_tup (f2 _ _ hb) rfl (g_cons (g_slot (g_cons (g_slot (g_nil (g_nil ?_)))))))))
  generalize upd H1 p (.tup [.int (i : Nat), .ref b]) = H2 at f2 S2
  show tIfS _ _ _ D [some (.ref a), some (.int (T : Int)), some (.int (L : Int)), some (.int (B : Int)), some (.ref d), some (.int (i : Nat)), some (.int (e.1 : Int)), some (.int (e.2 : Int)), none, none] H2
  have skip : ¬ (L.testBit e.2 = true ∧ B.testBit i = false) → D.nx [some (.ref a), some (.int (T : Int)), some (.int (L : Int)), some (.int (B : Int)), some (.ref d), some (.int (i : Nat)), some (.int (e.1 : Int)), some (.int (e.2 : Int)), none, none] H2 := fun hn =>
    k H2 f kvs _ _ _ f2 (S2.mono (by omega)) (F.skip he hn)
  tm_at "go"
  refine s_shr (by omega) ?_
  tm_at "go"
  rw [bit_test]
  refine s_ite (fun h1 => ?_) fun h1 => ?_
  · tm_at "go"
    refine s_shr (by omega) ?_
    tm_at "go"
    rw [bit_test]
    refine s_iten (fun h2 => ?_) fun h2 => ?_
    · refine s_drop (s_bm ?_)
      refine ⟨_, rfl, d, rfl, .inl ⟨kvs, .inl S2.at_⟩, _, rfl, by show 0 ≤ sizeLine; exact Nat.zero_le _, fun z hz => ?_⟩
      have S3 := S2.up (L2.Same.new (o := .lst []) hz)
      have f3 := f2.trans (L2.Same.new (o := .lst []) hz)
      have hz0 : H z = none := f2.free hz
      have F' := F.put (t := e.1) (h := e.2) he h1 h2
      refine ⟨kvs, kI e.1, S3.at_, rfl, by rw [sizeLine_eq]; have := S.len; omega, fun v hv => ?_, fun hv => ?_⟩
      · obtain ⟨q, rfl, hq, hq0, hqd⟩ := S3.some_ e.1 v hv
        refine s_tyL hq (s_cons (s_var rfl (s_nil (s_app hq (by rw [vN_len]; have := F.2 e.1; omega) ?_))))
        exact k _ _ _ _ _ _ (f3.out hq0) ((S3.app hv).mono (by omega)) F'
      · have S4 := S2.add (t := e.1) hv hz hz0
        have f4 : Same H (upd (upd H2 z (.lst [])) d (.dK (putK kvs (kI e.1) (.ref z)))) := f3.out hd
        have hv4 : valV (putK kvs (kI e.1) (.ref z)) (kI e.1) = some (.ref z) := by rw [valV_put, if_pos rfl]
        obtain ⟨q, eq, hq, hq0, hqd⟩ := S4.some_ e.1 _ hv4
        cases eq
        refine s_tyL hq (s_cons (s_var rfl (s_nil (s_app hq (by rw [vN_len]; have := F.2 e.1; omega) ?_))))
        exact k _ _ _ _ _ _ (f4.out hq0) (S4.app hv4) F'
    · refine s_next (skip fun h => ?_)
      rw [h.2] at h2
      cases h2
  · refine iteF ?_
    refine s_next (skip fun h => ?_)
    rw [h.1] at h1
    cases h1
end Un
namespace Un
open PySem L2 PySem.Spec PyProof.Rows
local macro_rules | `(tactic| tm_at "s") => `(tactic| with_reducible first
  | refine s_seq ?_ | (refine s_asg ?_; dsimp only [List.set]) | refine s_asgG ?_ | refine g_sub ?_ | refine s_sl ?_ | refine s_noPart ?_ | refine s_part ?_ | refine s_bm ?_ | refine s_lstRg ?_ | refine s_tupRg ?_ | refine s_rg1 ?_ | refine s_rg2 ?_  | refine s_isB ?_ | refine s_notB ?_ | refine s_next ?_ | refine s_ret ?_ | refine s_drop ?_ | refine s_ifs ?_ | refine s_brk ?_ | refine s_cont ?_ | refine s_retN ?_
  | refine s_var rfl ?_ | refine s_c ?_ | refine s_op ?_ | refine s_cons ?_ | refine s_nil ?_ | refine s_call ?_ | refine s_CB ?_ | refine s_un ?_
  | refine s_test ?_ | refine s_tB ?_ | refine s_k ?_ | refine s_not ?_ | refine s_and ?_ | refine s_or ?_ | refine s_notV ?_ | refine s_andV ?_ | refine s_orV ?_ | refine s_if ?_
  | refine s_add ?_ | refine s_sub ?_ | refine s_lt ?_ | refine s_le ?_ | refine s_gt ?_ | refine s_ge ?_ | refine s_eqI ?_ | refine s_neI ?_ | refine s_band ?_ | refine s_bor ?_ | refine s_neg ?_ | refine s_inv ?_
  | refine s_isN ?_ | refine s_notN ?_ | refine s_int1 ?_ | refine s_abs ?_ | refine s_min2 ?_ | refine s_max2 ?_
  | refine s_tup ?_ | refine s_lst ?_ | refine s_chain ?_ | refine s_truI ?_ | refine s_ki ?_ | refine s_sfld ?_ | refine s_fld ?_ | refine g_cons ?_ | refine g_nil ?_ | (refine g_name ?_; dsimp only [List.set]) | refine s_isD (by decide) (by assumption) ?_)
local macro_rules | `(tactic| tm_at "go") => `(tactic| repeat' (tm_at "s"))
variable {K : PySem.W.Frag}
structure Wk (es : List Arr) (T L B : Nat) (f : Nat → List Nat) (R : Nat) (W : List Nat) (x : Option Nat) : Prop where
  base : Sub T R
  inR : ∀ t ∈ W, R.testBit t = true
  done : ∀ t, R.testBit t = true → t ∉ W → some t ≠ x → ∀ h ∈ f t, R.testBit h = true
  least : ∀ S, Sub T S → Closed (arrR es) L B S → Sub R S
  few : W.length + 2 * cnt (arrR es) R ≤ 3000
theorem cnt_le (rs : List Rec) (S : Nat) : cnt rs S ≤ rs.length := by
  unfold cnt
  exact List.countP_le_length
theorem led2 {Q : VK} {a d : Addr} {es : List Arr} {T L B n : Nat} {H H1 : Hp} {f : Nat → List Nat} {kvs : List (Key × V)} {y5 y6 y7 : Option V} (hel : es.length ≤ 1000) (hes : ∀ e ∈ es, e.1 ≤ 1000 ∧ e.2 ≤ 1000) (hT : T < 2 ^ 1000) (e1 : Same H H1) (S : Heads H d f n H1 kvs) (F : HF es L B es.length f)
    (k : ∀ (R : Nat) H', IsLed es T L B R → Same H H' → Q (.int R) H') : t_led2 K { nx := fun _ H' => Q .non H', rt := Q } [some (.ref a), some (.int (T : Int)), some (.int (L : Int)), some (.int (B : Int)), some (.ref d), y5, y6, y7, none, none] H1 := by
  unfold t_led2
  tm_at "go"
  refine ⟨T, rfl, hT, fun ns q H2 hns hbits hq e2 hq2 => ?_⟩
  tm_at "go"
  refine s_lstT hq2 fun w hw => ?_
  have e3 := e2.trans (L2.Same.new (o := .lst (vN ns)) hw)
  have hw1 : H1 w = none := e2.free hw
  have nsl : ns.length ≤ 1000 := by
    refine Nat.le_trans (lot_len ns 0 1000 hns fun t ht => ⟨Nat.zero_le _, ?_⟩) (Nat.le_refl _)
    apply Classical.byContradiction
    intro hn
    have := Nat.testBit_lt_two_pow (x := T) (i := t) (Nat.lt_of_lt_of_le hT (Nat.pow_le_pow_right (by decide) (by omega)))
    rw [(hbits t).mp ht] at this
    cases this
  have fin : True := trivial
  tm_at "go"
  refine s_whileLen (fun σ H3 => ∃ (R : Nat) (W : List Nat) (y : Option V), σ = [some (.ref a), some (.int (T : Int)), some (.int (L : Int)), some (.int (B : Int)), some (.ref d), y5, y6, y, some (.int (R : Int)), some (.ref w)] ∧ Same H1 H3 ∧ H3 w = some (.lst (vN W)) ∧ Wk es T L B f R W none)
    (fun σ H3 => lenAt w H3 + 2 * (match σ[8]? with | some (some (V.int i)) => cnt (arrR es) i.toNat | _ => 0))
    ⟨T, ns, y7, rfl, e3, upd_same, ⟨fun i h => h, fun t ht => (hbits t).mp ht, fun t ht hn => absurd ((hbits t).mpr ht) hn, fun S h _ => h, by
      have := cnt_le (arrR es) T
      have e : (arrR es).length = es.length := by unfold arrR; rw [List.length_map]
      omega⟩⟩ ?_
  rintro σ H3 ⟨R, W, y, rfl, e3, hW, wk⟩
  refine ⟨w, vN W, rfl, hW, fun hne => ?_, fun he => ?_⟩
  · obtain ⟨W', t, rfl⟩ : ∃ W' t, W = W' ++ [t] := by
      have hW0 : W ≠ [] := fun e => hne (by rw [e]; rfl)
      exact ⟨W.dropLast, W.getLast hW0, (List.dropLast_concat_getLast hW0).symm⟩
    have htR := wk.inR t (List.mem_append_right _ (List.mem_singleton.mpr rfl))
    have hvW : vN (W' ++ [t]) = vN W' ++ [V.int (t : Int)] := by
      unfold vN
      rw [List.map_append]
      rfl
    have S3 := S.up e3
    have hdw : d ≠ w := ne_of_none S.at_ hw1
    refine s_forLx ?_
    refine ⟨_, rfl, d, rfl, .inl ⟨kvs, .inl S3.at_⟩, _, rfl, .inl ⟨rfl, _, SqL.of hW⟩, w, vN (W' ++ [t]), .int (t : Int), rfl, rfl, hW, by rw [hvW]; simp, by show 0 ≤ sizeLine; exact Nat.zero_le _, fun z hz => ?_⟩
    have hdl : (vN (W' ++ [t])).dropLast = vN W' := by rw [hvW, List.dropLast_concat]
    rw [hdl] at hz ⊢
    have e4 : Same H1 (upd H3 w (.lst (vN W'))) := e3.out hw1
    have hz1 : H1 z = none := e4.free hz
    have hzw : z ≠ w := fun e => by rw [e, upd_same] at hz; cases hz
    have e5 := e4.trans (L2.Same.new (o := .lst []) hz)
    have S5 := S.up e5
    have hw5 : (upd (upd H3 w (.lst (vN W'))) z (.lst [])) w = some (.lst (vN W')) := by rw [upd_ne (Ne.symm hzw), upd_same]
    refine ⟨_, DGet.k S5.at_ (k := kI t), ?_⟩
    obtain ⟨q0, hq0, hq1, hq2, hqw⟩ : ∃ q0, (valV kvs (kI t)).getD (.ref z) = .ref q0 ∧ (upd (upd H3 w (.lst (vN W'))) z (.lst [])) q0 = some (.lst (vN (f t))) ∧ (upd (upd H3 w (.lst (vN W'))) z (.lst [])) q0 ≠ none ∧ q0 ≠ w := by
      cases hv : valV kvs (kI t) with
      | none => exact ⟨z, rfl, by rw [upd_same, S.none_ t hv]; rfl, by rw [upd_same]; simp, hzw⟩
      | some v =>
        obtain ⟨q0, rfl, h1, _, _⟩ := S5.some_ t v hv
        obtain ⟨q1, e9, h2, _, _⟩ := S.some_ t _ hv
        cases e9
        exact ⟨q0, rfl, h1, by rw [h1]; simp, ne_of_none h2 hw1⟩
    rw [hq0]
    generalize upd (upd H3 w (.lst (vN W'))) z (.lst []) = H5 at e5 hw5 hq1
    have mu3 : lenAt w H3 = W'.length + 1 := by rw [lenAt_eq hW, vN_len, List.length_append]; rfl
    have few := wk.few
    rw [List.length_append] at few
    have few1 : [t].length = 1 := rfl
    refine s_forL (fun j σ H6 => ∃ (R' : Nat) (W2 : List Nat) (y : Option V), σ = [some (.ref a), some (.int (T : Int)), some (.int (L : Int)), some (.int (B : Int)), some (.ref d), y5, y6, y, some (.int (R' : Int)), some (.ref w)] ∧ Same H1 H6 ∧ H6 q0 = some (.lst (vN (f t))) ∧ H6 w = some (.lst (vN W2)) ∧ Wk es T L B f R' W2 (some t) ∧ R'.testBit t = true ∧
        (∀ h ∈ (f t).take j, R'.testBit h = true) ∧ W2.length + 2 * cnt (arrR es) R' ≤ W'.length + 2 * cnt (arrR es) R)
      hq1 ⟨R, W', _, rfl, e5, hq1, hw5, ⟨wk.base, fun x hx => wk.inR x (List.mem_append_left _ hx), fun x hx hn hxt => wk.done x hx (fun hm => by
        rcases List.mem_append.mp hm with hm | hm
        · exact hn hm
        · exact hxt (by rw [List.mem_singleton.mp hm])) (by simp), wk.least, by omega⟩, htR, fun h hh => by simp at hh, Nat.le_refl _⟩ (fun _ _ _ ⟨_, _, _, _, _, h, _⟩ => h) ?_ ?_ fun _ q => q
    · rintro j x σ H6 hj ⟨R', W2, y, rfl, e6, hq6, hw6, wk6, ht6, hall, hmu⟩
      unfold vN at hj
      rw [List.getElem?_map] at hj
      obtain ⟨h, hh, rfl⟩ := Option.map_eq_some_iff.mp hj
      have hf := List.mem_of_getElem? hh
      obtain ⟨k0, hk0, hek, hL, hB⟩ := (F.1 t h).mp hf
      have hem := List.mem_of_getElem? hek
      have hh1 := (hes _ hem).2
      have htake : ∀ x, x ∈ (f t).take (j + 1) ↔ x ∈ (f t).take j ∨ x = h := fun x => by
        rw [List.take_succ, hh]
        simp
      refine g_slot ?_
      show tIfS _ _ _ _ [some (.ref a), some (.int (T : Int)), some (.int (L : Int)), some (.int (B : Int)), some (.ref d), y5, y6, some (.int (h : Nat)), some (.int (R' : Int)), some (.ref w)] H6
      tm_at "go"
      refine s_shr (by omega) ?_
      tm_at "go"
      rw [bit_test]
      refine s_iten (fun h1 => ?_) fun h1 => ?_
      · tm_at "go"
        refine s_shl (shl_ok h hh1) ?_
        tm_at "go"
        rw [shl_nat, bor_nat]
        refine s_tyL hw6 ?_
        have few6 := wk6.few
        tm_at "go"
        refine s_app hw6 (by rw [vN_len]; omega) ?_
        have hcnt := cnt_lt (rs := arrR es) (S := R') (r := ([t], h)) (List.mem_map.mpr ⟨(t, h), hem, rfl⟩) h1
        have hcnt' : cnt (arrR es) (R' ||| 1 <<< h) < cnt (arrR es) R' := hcnt
        have up : ∀ i, R'.testBit i = true → (R' ||| 1 <<< h).testBit i = true := fun i hi => by rw [bit_put, hi]; rfl
        have hbit : (R' ||| 1 <<< h).testBit h = true := by rw [bit_put]; simp
        refine ⟨R' ||| 1 <<< h, W2 ++ [h], _, rfl, e6.out hw1, by rw [upd_ne hqw]; exact hq6, ?_, ⟨fun i hi => up i (wk6.base i hi), fun x hx => ?_, fun x hx hn hxt h' hh' => ?_, fun S' h1' h2' i hi => ?_, ?_⟩, up t ht6, fun x hx => ?_, ?_⟩
        · rw [upd_same]
          unfold vN
          rw [List.map_append]
          rfl
        · rcases List.mem_append.mp hx with hx | hx
          · exact up x (wk6.inR x hx)
          · rw [List.mem_singleton.mp hx]
            exact hbit
        · have hx' : R'.testBit x = true := by
            rw [bit_put, Bool.or_eq_true] at hx
            rcases hx with hx | hx
            · exact hx
            · exact absurd (List.mem_append_right _ (List.mem_singleton.mpr (of_decide_eq_true hx))) hn
          exact up h' (wk6.done x hx' (fun hm => hn (List.mem_append_left _ hm)) hxt h' hh')
        · have hS := wk6.least S' h1' h2'
          rw [bit_put, Bool.or_eq_true] at hi
          rcases hi with hi | hi
          · exact hS i hi
          · rw [of_decide_eq_true hi]
            exact h2' k0 ([t], h) (by unfold arrR; rw [List.getElem?_map, hek]; rfl) hL hB fun n hn => by
              rw [List.mem_singleton.mp hn]
              exact hS t ht6
        · rw [List.length_append]
          show W2.length + 1 + _ ≤ _
          omega
        · rcases (htake x).mp hx with hx | rfl
          · exact up x (hall x hx)
          · exact hbit
        · rw [List.length_append]
          show W2.length + 1 + _ ≤ _
          omega
      · tm_at "go"
        refine ⟨R', W2, _, rfl, e6, hq6, hw6, wk6, ht6, fun x hx => ?_, hmu⟩
        rcases (htake x).mp hx with hx | rfl
        · exact hall x hx
        · exact h1
    · rintro σ H6 ⟨R', W2, y, rfl, e6, hq6, hw6, wk6, ht6, hall, hmu⟩
      refine ⟨⟨R', W2, y, rfl, e6, hw6, ⟨wk6.base, wk6.inR, fun x hx hn _ h hh => ?_, wk6.least, wk6.few⟩⟩, ?_⟩
      · by_cases ext : x = t
        · subst ext
          exact hall h (by rw [vN_len, List.take_length]; exact hh)
        · exact wk6.done x hx hn (fun e => ext (Option.some.inj e)) h hh
      · show lenAt w H6 + 2 * cnt (arrR es) ((R' : Int)).toNat < lenAt w H3 + 2 * cnt (arrR es) ((R : Int)).toNat
        rw [lenAt_eq hw6, vN_len, mu3, Int.toNat_natCast, Int.toNat_natCast]
        omega
  · have hW0 : W = [] := by
      unfold vN at he
      exact List.map_eq_nil_iff.mp he
    subst hW0
    tm_at "go"
    refine k R H3 ⟨wk.base, fun j r hj hL hB hn => ?_, wk.least⟩ (e1.trans e3)
    obtain ⟨e, he, rfl⟩ : ∃ e, es[j]? = some e ∧ r = ([e.1], e.2) := by
      unfold arrR at hj
      rw [List.getElem?_map] at hj
      obtain ⟨e, h1, h2⟩ := Option.map_eq_some_iff.mp hj
      exact ⟨e, h1, h2.symm⟩
    refine wk.done e.1 (hn e.1 (List.mem_singleton.mpr rfl)) (by simp) (by simp) e.2 ((F.1 e.1 e.2).mpr ⟨j, (List.getElem?_eq_some_iff.mp he).1, he, hL, hB⟩)
end Un
namespace Un
open PySem L2 PySem.Spec PyProof.Rows
local macro_rules | `(tactic| tm_at "s") => `(tactic| with_reducible first
  | refine s_seq ?_ | (refine s_asg ?_; dsimp only [List.set]) | refine s_asgG ?_ | refine g_sub ?_ | refine s_sl ?_ | refine s_noPart ?_ | refine s_part ?_ | refine s_bm ?_ | refine s_lstRg ?_ | refine s_tupRg ?_ | refine s_rg1 ?_ | refine s_rg2 ?_  | refine s_isB ?_ | refine s_notB ?_ | refine s_next ?_ | refine s_ret ?_ | refine s_drop ?_ | refine s_ifs ?_ | refine s_brk ?_ | refine s_cont ?_ | refine s_retN ?_
  | refine s_var rfl ?_ | refine s_c ?_ | refine s_op ?_ | refine s_cons ?_ | refine s_nil ?_ | refine s_call ?_ | refine s_CB ?_ | refine s_un ?_
  | refine s_test ?_ | refine s_tB ?_ | refine s_k ?_ | refine s_not ?_ | refine s_and ?_ | refine s_or ?_ | refine s_notV ?_ | refine s_andV ?_ | refine s_orV ?_ | refine s_if ?_
  | refine s_add ?_ | refine s_sub ?_ | refine s_lt ?_ | refine s_le ?_ | refine s_gt ?_ | refine s_ge ?_ | refine s_eqI ?_ | refine s_neI ?_ | refine s_band ?_ | refine s_bor ?_ | refine s_neg ?_ | refine s_inv ?_
  | refine s_isN ?_ | refine s_notN ?_ | refine s_int1 ?_ | refine s_abs ?_ | refine s_min2 ?_ | refine s_max2 ?_
  | refine s_tup ?_ | refine s_lst ?_ | refine s_chain ?_ | refine s_truI ?_ | refine s_ki ?_ | refine s_sfld ?_ | refine s_fld ?_ | refine g_cons ?_ | refine g_nil ?_ | (refine g_name ?_; dsimp only [List.set]) | refine s_isD (by decide) (by assumption) ?_)
local macro_rules | `(tactic| tm_at "go") => `(tactic| repeat' (tm_at "s"))
variable {K : PySem.W.Frag}
theorem pure_led_to (vs : List V) (H : Hp) (Q : VK) (E : XK) (h : sp_led_to vs H Q E) : t_led_to K { nx := fun _ H' => Q .non H', rt := Q } (start ["arrows", "begin", "let", "barred", "heads", "arrow", "tail", "head", "reached", "waiting"] vs) H := by
  obtain ⟨v, es, T, L, B, rfl, hv, hel, hes, hT, k⟩ := h
  obtain ⟨a, xs, rfl, ha, hxl, hx⟩ := arr_at hv
  show t_led_to K _ [some (.ref a), some (.int (T : Int)), some (.int (L : Int)), some (.int (B : Int)), none, none, none, none, none, none] H
  unfold t_led_to
  refine s_seq (s_asg fun d hd => ?_)
  dsimp only [List.set]
  have e0 : Same H (upd H d (.dK [])) := L2.Same.new hd
  refine s_seq (s_forE (fun i σ H1 => ∃ f kvs y5 y6 y7, σ = [some (.ref a), some (.int (T : Int)), some (.int (L : Int)), some (.int (B : Int)), some (.ref d), y5, y6, y7, none, none] ∧ Same H H1 ∧ Heads H d f i H1 kvs ∧ HF es L B i f)
    (e0 _ _ ha) ⟨_, [], none, none, none, rfl, e0, Heads.nil upd_same, HF.nil⟩ (fun i σ H1 ⟨_, _, _, _, _, _, e, _⟩ => e _ _ ha) ?_ ?_ fun _ q => ⟨_, rfl, q⟩)
  · rintro i x σ H1 p hi ⟨f, kvs, y5, y6, y7, rfl, e1, S, F⟩ hp
    obtain ⟨e, b, he, rfl, hb⟩ := hx i x hi
    have hil := (List.getElem?_eq_some_iff.mp he).1
    exact led_turn e1 S F he hb hp (by omega) hd fun H2 f' kvs' z5 z6 z7 e2 S2 F2 => ⟨f', kvs', z5, z6, z7, rfl, e2, S2, F2⟩
  · rintro σ H1 ⟨f, kvs, y5, y6, y7, rfl, e1, S, F⟩
    rw [hxl] at S F
    exact led2 hel hes hT e1 S F k
end Un
/-! The head: facts by names, error classes with super().__init__ beside. -/
namespace Un
open PySem L2 PySem.Spec PyProof.Rows PySem.Calls

/-! ### a def behind the top -/
abbrev FnS (K : PySem.W.Frag) (x qual : Str) (st : Stmt) (f : Addr) : Prop := ∃ fd, Fun K x qual st f fd
theorem fun_of {K : PySem.W.Frag} {x qual : Str} {st : Stmt} {f : Addr} (h : ∃ fd, FunD K x qual (defArgs st) (defBody st) (defScope st) [] [] f fd) : FnS K x qual st f := by
  obtain ⟨fd, ⟨oc, od, dV, kV, doc, pm, an, cdv, ct, osl, e, lk, hcd, hD, hK⟩, kp⟩ := h
  rcases hD with ⟨_, rfl⟩ | ⟨z, _⟩
  · exact ⟨fd, ⟨oc, od, kV, doc, pm, an, cdv, ct, osl, e, lk, hcd⟩, kp⟩
  · exact absurd rfl z
/-- a def that keeps its promise -/
def Ok (P : Program) (w : World) (K : PySem.W.Frag) (mg : Str → Option Value) (base : Heap) (CX : CXT) (k : Nat) (f : Addr) (ps : List Str) (sp : Sp) : Prop :=
  ∃ fd, Binds K fd ps [] ∧ FnOk P w K mg base CX k f fd ps sp
/-- a constant of the module -/
theorem pe_globE {X : Cx} {x : Str} {v : V} {pos : Pos} (hg : Gl X x) (hm : ∃ u, X.mg x = some u ∧ RelV v u) (hd : (x == ("__debug__" : Str)) = false := by decide) : PE X (.Name x pos) (tC v) := by
  obtain ⟨u, h, r⟩ := hm
  exact pe_glob hg h r hd
theorem int_glob {K : PySem.W.Frag} {h : Heap} {mg : Str → Option Value} (X : K.In h) (G : h.Ns mainGlobals mg) {x : Str} {i : Int} (c : (He.Fa.int x i).ok K = true) : ∃ u, mg x = some u ∧ RelV (.int i) u := by
  obtain ⟨t, e⟩ := He.int_ok X G c
  exact ⟨_, e, ⟨t, rfl⟩⟩

/-! ### error classes whose __init__ says super().__init__ -/
open He in
abbrev FnX : Type := Option (Str × Str × Arguments × FuncBody × Scope × Addr × List Str × Addr)
open He in
def exObs (K : PySem.W.Frag) (x : Str) : FnX := match K.lookup (ma K (ga K x) "__init__") with
  | some ⟨_, _, .func fd, _⟩ => some (fd.name, fd.qualname, fd.params, fd.body, fd.scope, fd.globals, fd.closure.map (·.1), fd.builtins)
  | _ => none
structure ExcD where
  cls : Str
  fld : Str
  qual : Str
  params : Arguments
  body : List Stmt
  scope : Scope
def ExcD.val (d : ExcD) : FnX := some ("__init__", d.qual, d.params, .stmts d.body, d.scope, mainGlobals, ["__class__"], builtinsNs)
def excB (K : PySem.W.Frag) (C : Addr) : Bool := match K.lookup C with
  | some ⟨.type "type", _, .cls cd, sl⟩ => (match cd.mro, sl.toList with
    | .ref C' :: bm, [_, _, _, _, some (.builtin n), _] => C' == C && (n == "ValueError.__new__" && (!cd.hasDel && (cd.hasDict && PySem.HandSPX.refsVE bm)))
    | _, _ => false)
  | _ => false
theorem excB_ok {K : PySem.W.Frag} {C : Addr} (q : excB K C = true) : ∃ nm q N bs bm sn sub ab col dd k0 k1 k2 k3 k5, K.lookup C = some (excClassObj nm q C N bs bm true sn sub ab col dd k0 k1 k2 k3 k5 "ValueError.__new__") ∧ PySem.HandSPX.refsVE bm = true := by
  unfold excB at q
  split at q
  · rename_i dd cd sl ho
    split at q
    · rename_i C' bm k0 k1 k2 k3 n k5 hm hs
      simp only [Bool.and_eq_true, beq_iff_eq, Bool.not_eq_true'] at q
      obtain ⟨rfl, rfl, hdel, hhd, hr⟩ := q
      obtain ⟨nm, bs, mro, ns, qn, hd, sn, sub, ab, col, del⟩ := cd
      dsimp only at hm hdel hhd
      subst hm hdel hhd
      have hsl : sl = #[k0, k1, k2, k3, some (.builtin "ValueError.__new__"), k5] := by
        obtain ⟨l⟩ := sl
        simp only at hs
        rw [hs]
      subst hsl
      exact ⟨nm, qn, ns, bs, bm, sn, sub, ab, col, dd, k0, k1, k2, k3, k5, ho, hr⟩
    · cases q
  · cases q
/-- the function's other parts -/
def exFnB (K : PySem.W.Frag) (C fI : Addr) (qual file : Str) : Bool := match K.lookup fI with
  | some ⟨_, _, .func fd, _⟩ => (match fd.closure, fd.code, fd.defaults, fd.kwdefaults with
    | [(_, cc)], .ref cda, .none, .none => PySem.W.codeIn K (.ref cda) qual && ((match K.lookup cc with
      | some ⟨_, _, .cell (some (.ref C')), _⟩ => decide (C' = C)
      | _ => false) && (match K.lookup cda with
      | some ⟨_, _, .fields vs, _⟩ => (match (vs[2]? : Option Value) with
        | some (.str f _) => decide (f = file)
        | _ => false)
      | _ => false))
    | _, _, _, _ => false)
  | _ => false
open He in
def ExcD.ok (file : Str) (K : PySem.W.Frag) (d : ExcD) : Bool :=
  excB K (ga K d.cls) && (eqO (PySem.W.findIn K (.ref (ga K d.cls)) "__setattr__") (some (some (.builtin "object.__setattr__"))) && (eqO (PySem.W.findIn K (.ref (ga K d.cls)) "__getattribute__") (some (some (.builtin "BaseException.__getattribute__"))) &&
  (eqO (PySem.W.findIn K (.ref (ga K d.cls)) "__getattr__") (some none) && (eqO (PySem.W.findIn K (.ref (ga K d.cls)) d.fld) (some none) && (eqO (PySem.W.findIn K (.ref (ga K d.cls)) "__init__") (some (some (.ref (ma K (ga K d.cls) "__init__")))) &&
  (decide (PySem.W.typeIn K (.ref (ma K (ga K d.cls) "__init__")) = some (.type "function")) && (PySem.W.keepIn K (.ref (ga K d.cls)) && (decide (PySem.W.subIn K (.ref (ga K d.cls)) (.type "BaseException") = some true) &&
  (decide (PySem.W.typeIn K (.ref (ga K d.cls)) = some (.type "type")) && (PySem.W.hasDictIn K (ga K d.cls) && (decide (PySem.W.exmOne K (.ref (ga K d.cls)) (.ref (ga K d.cls)) = some true) && (decide (PySem.W.mroIn K (ga K d.cls) (.ref (ga K d.cls)) = some true) &&
  (eqO (PySem.W.ks_superIn K (ga K d.cls) (ga K d.cls) "__init__") (some (some (.builtin "ValueError.__init__"))) && (decide (PySem.W.subIn K (.ref (ga K d.cls)) (.type "ValueError") = some true) && (eqO (PySem.W.nsIn K PySem.cStatics "thirdparty.any") (some none) &&
  exFnB K (ga K d.cls) (ma K (ga K d.cls) "__init__") d.qual file)))))))))))))))
section
open He
variable {prog : Program} {K : PySem.W.Frag} {h : Heap} {mg : Str → Option Value}
theorem exFn_ok {d : ExcD} {msg : Str} {jj : Nat} {p1 p2 q1 q2 q3 q4 q5 q6 q7 q8 q9 q10 : Pos} {file : Str} (o : exObs K d.cls = d.val) (c : exFnB K (ga K d.cls) (ma K (ga K d.cls) "__init__") d.qual file = true)
    (e1 : d.params = PySem.PZ.iA p1 p2) (e2 : d.body = PySem.PZ.iB msg jj q1 q2 q3 q4 q5 q6 q7 q8 q9 q10) (e3 : d.scope = PySem.PZ.iS) (hf : ((prog.main.file : Str) == file) = true) (hl : (q3.endLine == q5.line) = true) :
    ∃ (msg : Str) (jj : Nat) (oc cl ccl : Value) (od cdd cld : Option Addr) (doc pm : Value) (an : Option Addr) (ct : Value) (osl csl ccs : Array (Option Value)) (cc cda : Addr) (vs : Array Value) (file : Str) (tf : Tok) (qual : Str) (p1 p2 q1 q2 q3 q4 q5 q6 q7 q8 q9 q10 : Pos),
    K.lookup (ma K (ga K d.cls) "__init__") = some ⟨oc, od, .func (PySem.W.ksFn "__init__" qual (PySem.PZ.iA p1 p2) (PySem.PZ.iB msg jj q1 q2 q3 q4 q5 q6 q7 q8 q9 q10) PySem.PZ.iS .none .none doc pm an (.ref cda) ct cc), osl⟩ ∧ PySem.W.codeIn K (.ref cda) qual = true ∧
    K.lookup cc = some ⟨cl, cld, .cell (some (.ref (ga K d.cls))), csl⟩ ∧ K.lookup cda = some ⟨ccl, cdd, .fields vs, ccs⟩ ∧ vs[2]? = some (.str file tf) ∧ ((prog.main.file : Str) == file) = true ∧ (q3.endLine == q5.line) = true := by
  obtain ⟨dc, df, dq, dp, db, ds⟩ := d
  dsimp only at o c e1 e2 e3 ⊢
  subst e1 e2 e3
  unfold exObs at o
  unfold exFnB at c
  cases q : K.lookup (ma K (ga K dc) "__init__") with
  | none =>
    rw [q] at c
    cases c
  | some ob =>
    obtain ⟨oc, od, dt, osl⟩ := ob
    rw [q] at c o
    cases dt with
    | func fd =>
      obtain ⟨n1, n2, n3, n4, n5, n6, n7, n8, n9, n10, n11, n12, n13, n14, n15⟩ := fd
      have o2 : (some (n1, n2, n3, n4, n5, n6, n7.map (·.1), n15) : FnX) = some (("__init__" : Str), dq, PySem.PZ.iA p1 p2, FuncBody.stmts (PySem.PZ.iB msg jj q1 q2 q3 q4 q5 q6 q7 q8 q9 q10), PySem.PZ.iS, mainGlobals, [("__class__" : Str)], builtinsNs) := o
      simp only [Option.some.injEq, Prod.mk.injEq] at o2
      obtain ⟨h1, h2, h3, h4, h5, h6, h7, h8⟩ := o2
      subst h1 h2 h3 h4 h5 h6 h8
      dsimp only at c
      split at c
      · rename_i y cc cda
        obtain ⟨c1, c⟩ := ba c
        obtain ⟨c2, c3⟩ := ba c
        have hy : y = "__class__" := by
          have z : [y] = [("__class__" : Str)] := h7
          injection z
        subst hy
        cases qc : K.lookup cc with
        | none => rw [qc] at c2; cases c2
        | some obc =>
          obtain ⟨x1, x2, x3, x4⟩ := obc
          rw [qc] at c2
          cases x3 with
          | cell cv =>
            cases cv with
            | none => cases c2
            | some v =>
              cases v with
              | ref C' =>
                have hC : C' = ga K dc := of_decide_eq_true c2
                subst hC
                cases qd : K.lookup cda with
                | none => rw [qd] at c3; cases c3
                | some obd =>
                  obtain ⟨y1, y2, y3, y4⟩ := obd
                  rw [qd] at c3
                  cases y3 with
                  | fields vs =>
                    have c4 : (match (vs[2]? : Option Value) with
                      | some (.str f _) => decide (f = file)
                      | _ => false) = true := c3
                    split at c4
                    · rename_i f tf hv
                      have hff : f = file := of_decide_eq_true c4
                      subst hff
                      exact ⟨msg, jj, oc, x1, y1, od, y2, x2, n10, n11, n12, n14, osl, x4, y4, cc, cda, vs, f, tf, _, p1, p2, q1, q2, q3, q4, q5, q6, q7, q8, q9, q10, rfl, c1, qc, qd, hv, hf, hl⟩
                    · cases c4
                  | _ => cases c3
              | _ => cases c2
          | _ => cases c2
      · cases c
    | _ => cases c
theorem exc_txt (X : K.In h) (G : h.Ns mainGlobals mg) {d : ExcD} {msg : Str} {jj : Nat} {p1 p2 q1 q2 q3 q4 q5 q6 q7 q8 q9 q10 : Pos} {file : Str} (hfld : d.fld = "part") (o : exObs K d.cls = d.val) (c : d.ok file K = true) (cg : (Fa.glo d.cls).ok K = true) (cs : (Fa.free "super").ok K = true)
    (ht : (prog.main.scope.names.lookup ("super" : Str)).isSome = false)
    (e1 : d.params = PySem.PZ.iA p1 p2) (e2 : d.body = PySem.PZ.iB msg jj q1 q2 q3 q4 q5 q6 q7 q8 q9 q10) (e3 : d.scope = PySem.PZ.iS) (hf : ((prog.main.file : Str) == file) = true) (hl : (q3.endLine == q5.line) = true) :
    PySem.PZ.Txt prog K mg d.cls (ga K d.cls) (ma K (ga K d.cls) "__init__") := by
  obtain ⟨c1, c⟩ := ba c
  obtain ⟨c2, c⟩ := ba c
  obtain ⟨c3, c⟩ := ba c
  obtain ⟨c4, c⟩ := ba c
  obtain ⟨c5, c⟩ := ba c
  obtain ⟨c6, c⟩ := ba c
  obtain ⟨c7, c⟩ := ba c
  obtain ⟨c8, c⟩ := ba c
  obtain ⟨c9, c⟩ := ba c
  obtain ⟨c10, c⟩ := ba c
  obtain ⟨c11, c⟩ := ba c
  obtain ⟨c12, c⟩ := ba c
  obtain ⟨c13, c⟩ := ba c
  obtain ⟨c14, c⟩ := ba c
  obtain ⟨c15, c⟩ := ba c
  obtain ⟨c16, c17⟩ := ba c
  rw [hfld] at c5
  exact { gC := glo_ok X G cg, gS := free_ok X G cs, cls := excB_ok c1, sa := eqO_ok c2, ga := eqO_ok c3, gg := eqO_ok c4, noN := eqO_ok c5, iC := eqO_ok c6, tC := of_decide_eq_true c7, kC := c8, exC := of_decide_eq_true c9,
          tyC := of_decide_eq_true c10, hdC := c11, te := of_decide_eq_true c12, mro := of_decide_eq_true c13, sup := eqO_ok c14, sv := of_decide_eq_true c15, any := eqO_ok c16, top := ht, fn := exFn_ok o c17 e1 e2 e3 hf hl }
end

/-! ### the Hook -/
abbrev AlU : Type := He.AlD × List FnX × Bool
section
open He
def obsU (fa : List Fa) (fn : List DefD) (xs : List ExcD) (file : Str) (more : PySem.W.Frag → Bool) (K : PySem.W.Frag) : AlU := (obsD fa fn K, xs.map fun d => exObs K d.cls, (xs.all fun d => d.ok file K) && more K)
def valU (fn : List DefD) (xs : List ExcD) : AlU := (valD fn, xs.map ExcD.val, true)
def SaysU (fa : List Fa) (fn : List DefD) (xs : List ExcD) (file : Str) (more : PySem.W.Frag → Bool) (K : PySem.W.Frag) : Prop := obsU fa fn xs file more K = valU fn xs
def obsUG (n : Nat) (fa : List Fa) (fn : List DefD) (xs : List ExcD) (file : Str) (more : PySem.W.Frag → Bool) (g : Addr → Option Obj) : AlU := obsU fa fn xs file more (frG g (PySem.cStatics :: asD g n))
def hookU (n : Nat) (fa : List Fa) (fn : List DefD) (xs : List ExcD) (file : Str) (more : PySem.W.Frag → Bool) : PySem.W.Hook where
  α := AlU
  obs := fun s => obsUG n fa fn xs file more s.heap.get?
  val := fun _ => valU fn xs
  says := fun _ h => ∃ K : PySem.W.Frag, K.In h ∧ SaysU fa fn xs file more K
  of := fun _ _ e => ⟨_, frG_in, e⟩
  keeps := fun _ _ _ ⟨K, hK, c⟩ k => ⟨K, PySem.W.Frag.In.keeps hK k, c⟩
theorem obsUG_eq {n : Nat} {fa : List Fa} {fn : List DefD} {xs : List ExcD} {file : Str} {more : PySem.W.Frag → Bool} {g : Addr → Option Obj} {s : Shared} (h : ∀ a, g a = s.heap.get? a) : obsUG n fa fn xs file more g = (hookU n fa fn xs file more).obs s := by
  have e : g = s.heap.get? := funext h
  rw [e] <;> rfl
variable {fa : List Fa} {fn : List DefD} {xs : List ExcD} {file : Str} {more : PySem.W.Frag → Bool} {K : PySem.W.Frag}
theorem SaysU.d (c : SaysU fa fn xs file more K) : SaysD fa fn K := congrArg (fun z : AlU => z.1) c
theorem SaysU.exc (c : SaysU fa fn xs file more K) (i : Nat) {d : ExcD} (h : xs[i]? = some d := by rfl) : exObs K d.cls = d.val ∧ d.ok file K = true := by
  have e : xs.map (fun d => exObs K d.cls) = xs.map ExcD.val := congrArg (fun z : AlU => z.2.1) c
  have e2 : (xs.map fun d => exObs K d.cls)[i]? = (xs.map ExcD.val)[i]? := by rw [e]
  rw [List.getElem?_map, List.getElem?_map, h] at e2
  have b : ((xs.all fun d => d.ok file K) && more K) = true := congrArg (fun z : AlU => z.2.2) c
  exact ⟨Option.some.inj e2, List.all_eq_true.mp (ba b).1 d (List.mem_of_getElem? h)⟩
theorem SaysU.more_ (c : SaysU fa fn xs file more K) : more K = true := by
  have b : ((xs.all fun d => d.ok file K) && more K) = true := congrArg (fun z : AlU => z.2.2) c
  exact (ba b).2
theorem SaysU.fact (c : SaysU fa fn xs file more K) (i : Nat) {f : Fa} (h : fa[i]? = some f := by rfl) : f.ok K = true := c.d.fact i h
theorem SaysU.def_ (c : SaysU fa fn xs file more K) (i : Nat) {d : DefD} (h : fn[i]? = some d := by rfl) : ∃ fd, FunD K d.name d.qual d.params d.body d.scope (d.dvs K) (d.kws K) (fAd K d.at_) fd := c.d.def_ i h
end
end Un
/-! The derivations of k86, printed by gen.py. -/
namespace Un
open PySem L2 PySem.Spec PyProof.Rows
/-! ### the text by places -/
def top (i : Nat) : Stmt := PySem.Challenge.pw_untriedways_k86_cookeries_and_their_orde.main.body.getD i (.Pass ⟨0, 0, 0, 0⟩)
abbrev s_Cookery_parts : Stmt := inClass (top 17) 5
abbrev N_Cookery_parts : List Str := ["self"]
theorem sc_Cookery_parts : FnScope N_Cookery_parts ["self"] (defScope s_Cookery_parts) := ⟨rfl, rfl, rfl, by decide +kernel, rfl, by decide +kernel, by decide +kernel⟩
abbrev s_Cookery_eq : Stmt := inClass (top 17) 6
abbrev N_Cookery_eq : List Str := ["self", "other"]
theorem sc_Cookery_eq : FnScope N_Cookery_eq ["self", "other"] (defScope s_Cookery_eq) := ⟨rfl, rfl, rfl, by decide +kernel, rfl, by decide +kernel, by decide +kernel⟩
abbrev s_is_integer : Stmt := top 5
abbrev N_is_integer : List Str := ["thing"]
theorem sc_is_integer : FnScope N_is_integer ["thing"] (defScope s_is_integer) := ⟨rfl, rfl, rfl, by decide +kernel, rfl, by decide +kernel, by decide +kernel⟩
abbrev s_is_between : Stmt := top 6
abbrev N_is_between : List Str := ["thing", "least", "most"]
theorem sc_is_between : FnScope N_is_between ["thing", "least", "most"] (defScope s_is_between) := ⟨rfl, rfl, rfl, by decide +kernel, rfl, by decide +kernel, by decide +kernel⟩
abbrev s_is_index : Stmt := top 7
abbrev N_is_index : List Str := ["thing", "many"]
theorem sc_is_index : FnScope N_is_index ["thing", "many"] (defScope s_is_index) := ⟨rfl, rfl, rfl, by decide +kernel, rfl, by decide +kernel, by decide +kernel⟩
abbrev s_is_lot : Stmt := top 8
abbrev N_is_lot : List Str := ["thing", "many", "last", "item"]
theorem sc_is_lot : FnScope N_is_lot ["thing", "many"] (defScope s_is_lot) := ⟨rfl, rfl, rfl, by decide +kernel, rfl, by decide +kernel, by decide +kernel⟩
abbrev s_is_recipe : Stmt := top 14
abbrev N_is_recipe : List Str := ["many", "given", "thing"]
theorem sc_is_recipe : FnScope N_is_recipe ["many", "given", "thing"] (defScope s_is_recipe) := ⟨rfl, rfl, rfl, by decide +kernel, rfl, by decide +kernel, by decide +kernel⟩
abbrev s_are_recipes : Stmt := top 15
abbrev N_are_recipes : List Str := ["many", "given", "thing", "recipe"]
theorem sc_are_recipes : FnScope N_are_recipes ["many", "given", "thing"] (defScope s_are_recipes) := ⟨rfl, rfl, rfl, by decide +kernel, rfl, by decide +kernel, by decide +kernel⟩
abbrev s_mask_of : Stmt := top 9
abbrev N_mask_of : List Str := ["lot", "mask", "item"]
theorem sc_mask_of : FnScope N_mask_of ["lot"] (defScope s_mask_of) := ⟨rfl, rfl, rfl, by decide +kernel, rfl, by decide +kernel, by decide +kernel⟩
abbrev s_made_from : Stmt := top 16
abbrev N_made_from : List Str := ["recipes", "things", "let", "barred", "changed", "recipe", "lot", "thing"]
theorem sc_made_from : FnScope N_made_from ["recipes", "things", "let", "barred"] (defScope s_made_from) := ⟨rfl, rfl, rfl, by decide +kernel, rfl, by decide +kernel, by decide +kernel⟩
abbrev s_Cookery_init : Stmt := inClass (top 17) 0
abbrev N_Cookery_init : List Str := ["self", "many", "given", "recipes", "goals", "goal"]
theorem sc_Cookery_init : FnScope N_Cookery_init ["self", "many", "given", "recipes", "goals"] (defScope s_Cookery_init) := ⟨rfl, rfl, rfl, by decide +kernel, rfl, by decide +kernel, by decide +kernel⟩
abbrev s_Map_keep : Stmt := inClass (top 25) 1
abbrev N_Map_keep : List Str := ["self", "many", "arrows", "goals"]
theorem sc_Map_keep : FnScope N_Map_keep ["self", "many", "arrows", "goals"] (defScope s_Map_keep) := ⟨rfl, rfl, rfl, by decide +kernel, rfl, by decide +kernel, by decide +kernel⟩
abbrev s_are_arrows : Stmt := top 22
abbrev N_are_arrows : List Str := ["many", "thing", "pair", "place"]
theorem sc_are_arrows : FnScope N_are_arrows ["many", "thing"] (defScope s_are_arrows) := ⟨rfl, rfl, rfl, by decide +kernel, rfl, by decide +kernel, by decide +kernel⟩
abbrev s_lot_of : Stmt := top 10
abbrev N_lot_of : List Str := ["mask", "found", "item"]
theorem sc_lot_of : FnScope N_lot_of ["mask"] (defScope s_lot_of) := ⟨rfl, rfl, rfl, by decide +kernel, rfl, by decide +kernel, by decide +kernel⟩
abbrev s_led_to : Stmt := top 24
abbrev N_led_to : List Str := ["arrows", "begin", "let", "barred", "heads", "arrow", "tail", "head", "reached", "waiting"]
theorem sc_led_to : FnScope N_led_to ["arrows", "begin", "let", "barred"] (defScope s_led_to) := ⟨rfl, rfl, rfl, by decide +kernel, rfl, by decide +kernel, by decide +kernel⟩
abbrev s_are_goals : Stmt := top 23
abbrev N_are_goals : List Str := ["many", "arrows", "thing", "reached"]
theorem sc_are_goals : FnScope N_are_goals ["many", "arrows", "thing"] (defScope s_are_goals) := ⟨rfl, rfl, rfl, by decide +kernel, rfl, by decide +kernel, by decide +kernel⟩
abbrev s_Map_init : Stmt := inClass (top 25) 0
abbrev N_Map_init : List Str := ["self", "many", "arrows", "goals"]
theorem sc_Map_init : FnScope N_Map_init ["self", "many", "arrows", "goals"] (defScope s_Map_init) := ⟨rfl, rfl, rfl, by decide +kernel, rfl, by decide +kernel, by decide +kernel⟩
abbrev s__law_is_number : Stmt := top 34
abbrev N__law_is_number : List Str := ["_law_thing", "_law_many"]
theorem sc__law_is_number : FnScope N__law_is_number ["_law_thing", "_law_many"] (defScope s__law_is_number) := ⟨rfl, rfl, rfl, by decide +kernel, rfl, by decide +kernel, by decide +kernel⟩
abbrev s__law_is_lot : Stmt := top 35
abbrev N__law_is_lot : List Str := ["_law_thing", "_law_many", "_law_one", "_law_k"]
theorem sc__law_is_lot : FnScope N__law_is_lot ["_law_thing", "_law_many"] (defScope s__law_is_lot) := ⟨rfl, rfl, rfl, by decide +kernel, rfl, by decide +kernel, by decide +kernel⟩
abbrev s__law_is_recipe : Stmt := top 36
abbrev N__law_is_recipe : List Str := ["_law_many", "_law_there", "_law_thing"]
theorem sc__law_is_recipe : FnScope N__law_is_recipe ["_law_many", "_law_there", "_law_thing"] (defScope s__law_is_recipe) := ⟨rfl, rfl, rfl, by decide +kernel, rfl, by decide +kernel, by decide +kernel⟩
abbrev s__law_made : Stmt := top 33
abbrev N__law_made : List Str := ["_law_parts", "_law_things", "_law_barred", "_law_found", "_law_turn", "_law_size", "_law_k", "_law_lot", "_law_thing", "_law_one"]
theorem sc__law_made : FnScope N__law_made ["_law_parts", "_law_things", "_law_barred"] (defScope s__law_made) := ⟨rfl, rfl, rfl, by decide +kernel, rfl, by decide +kernel, by decide +kernel⟩
abbrev s__law_bad : Stmt := top 37
abbrev N__law_bad : List Str := ["_law_parts", "_law_many", "_law_there", "_law_recipes", "_law_goals", "_law_made_here", "_law_recipe", "_law_goal"]
theorem sc__law_bad : FnScope N__law_bad ["_law_parts"] (defScope s__law_bad) := ⟨rfl, rfl, rfl, by decide +kernel, rfl, by decide +kernel, by decide +kernel⟩
abbrev s__law_built : Stmt := top 42
abbrev N__law_built : List Str := ["_law_parts", "_law_refused", "_law_book", "e"]
theorem sc__law_built : FnScope N__law_built ["_law_parts"] (defScope s__law_built) := ⟨rfl, rfl, rfl, by decide +kernel, rfl, by decide +kernel, by decide +kernel⟩
abbrev s__law_draw : Stmt := top 28
abbrev N__law_draw : List Str := ["_law_hand_here", "_law_many", "_law_cell", "_law_digit", "_law_number"]
theorem sc__law_draw : FnScope N__law_draw ["_law_hand_here", "_law_many"] (defScope s__law_draw) := ⟨rfl, rfl, rfl, by decide +kernel, rfl, by decide +kernel, by decide +kernel⟩
abbrev s__law_hand : Stmt := top 27
abbrev N__law_hand : List Str := ["_law_script", "_law_cells", "_law_cell"]
theorem sc__law_hand : FnScope N__law_hand ["_law_script"] (defScope s__law_hand) := ⟨rfl, rfl, rfl, by decide +kernel, rfl, by decide +kernel, by decide +kernel⟩
abbrev s__law_has_ring : Stmt := top 44
abbrev N__law_has_ring : List Str := ["_law_parts", "_law_needs_here", "_law_found", "_law_turn", "_law_size", "_law_thing", "_law_lot", "_law_made_here", "_law_one"]
theorem sc__law_has_ring : FnScope N__law_has_ring ["_law_parts"] (defScope s__law_has_ring) := ⟨rfl, rfl, rfl, by decide +kernel, rfl, by decide +kernel, by decide +kernel⟩
abbrev s__law_is_order : Stmt := top 45
abbrev N__law_is_order : List Str := ["_law_parts", "_law_order", "_law_at", "_law_one", "_law_thing", "_law_lot"]
theorem sc__law_is_order : FnScope N__law_is_order ["_law_parts", "_law_order"] (defScope s__law_is_order) := ⟨rfl, rfl, rfl, by decide +kernel, rfl, by decide +kernel, by decide +kernel⟩
abbrev s_Cookery_given : Stmt := inClass (top 17) 2
abbrev N_Cookery_given : List Str := ["self"]
theorem sc_Cookery_given : FnScope N_Cookery_given ["self"] (defScope s_Cookery_given) := ⟨rfl, rfl, rfl, by decide +kernel, rfl, by decide +kernel, by decide +kernel⟩
abbrev s_Cookery_goals : Stmt := inClass (top 17) 4
abbrev N_Cookery_goals : List Str := ["self"]
theorem sc_Cookery_goals : FnScope N_Cookery_goals ["self"] (defScope s_Cookery_goals) := ⟨rfl, rfl, rfl, by decide +kernel, rfl, by decide +kernel, by decide +kernel⟩
abbrev s_Cookery_many : Stmt := inClass (top 17) 1
abbrev N_Cookery_many : List Str := ["self"]
theorem sc_Cookery_many : FnScope N_Cookery_many ["self"] (defScope s_Cookery_many) := ⟨rfl, rfl, rfl, by decide +kernel, rfl, by decide +kernel, by decide +kernel⟩
abbrev s_Cookery_recipes : Stmt := inClass (top 17) 3
abbrev N_Cookery_recipes : List Str := ["self"]
theorem sc_Cookery_recipes : FnScope N_Cookery_recipes ["self"] (defScope s_Cookery_recipes) := ⟨rfl, rfl, rfl, by decide +kernel, rfl, by decide +kernel, by decide +kernel⟩
abbrev s__law_keeps : Stmt := top 43
abbrev N__law_keeps : List Str := ["_law_book", "_law_parts", "_law_recipe"]
theorem sc__law_keeps : FnScope N__law_keeps ["_law_book", "_law_parts"] (defScope s__law_keeps) := ⟨rfl, rfl, rfl, by decide +kernel, rfl, by decide +kernel, by decide +kernel⟩
abbrev s__law_needs : Stmt := top 30
abbrev N__law_needs : List Str := ["_law_hand_here", "_law_things", "_law_found", "_law_turn", "_law_one"]
theorem sc__law_needs : FnScope N__law_needs ["_law_hand_here", "_law_things"] (defScope s__law_needs) := ⟨rfl, rfl, rfl, by decide +kernel, rfl, by decide +kernel, by decide +kernel⟩
abbrev s__law_shuffled : Stmt := top 29
abbrev N__law_shuffled : List Str := ["_law_hand_here", "_law_things", "_law_left", "_law_found"]
theorem sc__law_shuffled : FnScope N__law_shuffled ["_law_hand_here", "_law_things"] (defScope s__law_shuffled) := ⟨rfl, rfl, rfl, by decide +kernel, rfl, by decide +kernel, by decide +kernel⟩
abbrev s__law_renamed : Stmt := top 32
abbrev N__law_renamed : List Str := ["_law_hand_here", "_law_many", "_law_first", "_law_rows", "_law_goals", "_law_number", "_law_recipes", "_law_lot", "_law_thing", "_law_one", "_law_goal"]
theorem sc__law_renamed : FnScope N__law_renamed ["_law_hand_here", "_law_many", "_law_first", "_law_rows", "_law_goals"] (defScope s__law_renamed) := ⟨rfl, rfl, rfl, by decide +kernel, rfl, by decide +kernel, by decide +kernel⟩
abbrev s__law_kitchen : Stmt := top 31
abbrev N__law_kitchen : List Str := ["_law_hand_here", "_law_things", "_law_recipes", "_law_many", "_law_first", "_law_goals", "_law_deep", "_law_wild", "_law_found", "_law_thing", "_law_pool", "_law_turn", "_law_row", "_law_lot", "_law_one"]
theorem sc__law_kitchen : FnScope N__law_kitchen ["_law_hand_here", "_law_things", "_law_recipes"] (defScope s__law_kitchen) := ⟨rfl, rfl, rfl, by decide +kernel, rfl, by decide +kernel, by decide +kernel⟩
abbrev s__law_odd_recipe : Stmt := top 38
abbrev N__law_odd_recipe : List Str := ["_law_hand_here", "_law_parts", "_law_recipe", "_law_many", "_law_there", "_law_lot", "_law_thing", "_law_one", "_law_odd", "_law_k"]
theorem sc__law_odd_recipe : FnScope N__law_odd_recipe ["_law_hand_here", "_law_parts", "_law_recipe"] (defScope s__law_odd_recipe) := ⟨rfl, rfl, rfl, by decide +kernel, rfl, by decide +kernel, by decide +kernel⟩
abbrev s__law_odd_recipes : Stmt := top 39
abbrev N__law_odd_recipes : List Str := ["_law_hand_here", "_law_parts", "_law_recipes", "_law_at", "_law_way"]
theorem sc__law_odd_recipes : FnScope N__law_odd_recipes ["_law_hand_here", "_law_parts"] (defScope s__law_odd_recipes) := ⟨rfl, rfl, rfl, by decide +kernel, rfl, by decide +kernel, by decide +kernel⟩
abbrev s__law_odd_part : Stmt := top 40
abbrev N__law_odd_part : List Str := ["_law_hand_here", "_law_parts", "_law_kind", "_law_many", "_law_there", "_law_recipes", "_law_goals", "_law_one", "_law_odd", "_law_k"]
theorem sc__law_odd_part : FnScope N__law_odd_part ["_law_hand_here", "_law_parts", "_law_kind"] (defScope s__law_odd_part) := ⟨rfl, rfl, rfl, by decide +kernel, rfl, by decide +kernel, by decide +kernel⟩
abbrev s__law_spoiled : Stmt := top 41
abbrev N__law_spoiled : List Str := ["_law_hand_here", "_law_parts", "_law_odd", "_law_turn", "_law_kind"]
theorem sc__law_spoiled : FnScope N__law_spoiled ["_law_hand_here", "_law_parts"] (defScope s__law_spoiled) := ⟨rfl, rfl, rfl, by decide +kernel, rfl, by decide +kernel, by decide +kernel⟩
abbrev s_kitchen_order : Stmt := top 18
abbrev N_kitchen_order : List Str := ["cookery", "found", "changed", "thing", "needs", "lot", "made", "one"]
theorem sc_kitchen_order : FnScope N_kitchen_order ["cookery"] (defScope s_kitchen_order) := ⟨rfl, rfl, rfl, by decide +kernel, rfl, by decide +kernel, by decide +kernel⟩
abbrev s_law : Stmt := top 46
abbrev N_law : List Str := ["_law_script", "_law_hand_here", "_law_things", "_law_recipes", "_law_parts", "_law_refused", "_law_book", "_law_twin", "_law_turn", "_law_odd", "_law_due", "_law_other"]
theorem sc_law : FnScope N_law ["_law_script"] (defScope s_law) := ⟨rfl, rfl, rfl, by decide +kernel, rfl, by decide +kernel, by decide +kernel⟩
structure Txt (P : Program) (K : PySem.W.Frag) (mg : Str → Option Value) : Prop where
  c_MOST_ARROWS : ∃ u, mg "MOST_ARROWS" = some u ∧ RelV (.int 60) u
  c_MOST_PLACES : ∃ u, mg "MOST_PLACES" = some u ∧ RelV (.int 40) u
  c_MOST_RECIPES : ∃ u, mg "MOST_RECIPES" = some u ∧ RelV (.int 40) u
  c_MOST_THINGS : ∃ u, mg "MOST_THINGS" = some u ∧ RelV (.int 40) u
  cl_Cookery : Cls K (He.ga K "Cookery")
  cl_Map : Cls K (He.ga K "Map")
  g_Cookery : mg "Cookery" = some (.ref (He.ga K "Cookery"))
  g_Map : mg "Map" = some (.ref (He.ga K "Map"))
  g__law_bad : mg "_law_bad" = some (.ref (He.ga K "_law_bad"))
  g__law_built : mg "_law_built" = some (.ref (He.ga K "_law_built"))
  g__law_draw : mg "_law_draw" = some (.ref (He.ga K "_law_draw"))
  g__law_hand : mg "_law_hand" = some (.ref (He.ga K "_law_hand"))
  g__law_has_ring : mg "_law_has_ring" = some (.ref (He.ga K "_law_has_ring"))
  g__law_is_lot : mg "_law_is_lot" = some (.ref (He.ga K "_law_is_lot"))
  g__law_is_number : mg "_law_is_number" = some (.ref (He.ga K "_law_is_number"))
  g__law_is_order : mg "_law_is_order" = some (.ref (He.ga K "_law_is_order"))
  g__law_is_recipe : mg "_law_is_recipe" = some (.ref (He.ga K "_law_is_recipe"))
  g__law_keeps : mg "_law_keeps" = some (.ref (He.ga K "_law_keeps"))
  g__law_kitchen : mg "_law_kitchen" = some (.ref (He.ga K "_law_kitchen"))
  g__law_made : mg "_law_made" = some (.ref (He.ga K "_law_made"))
  g__law_needs : mg "_law_needs" = some (.ref (He.ga K "_law_needs"))
  g__law_odd_part : mg "_law_odd_part" = some (.ref (He.ga K "_law_odd_part"))
  g__law_odd_recipe : mg "_law_odd_recipe" = some (.ref (He.ga K "_law_odd_recipe"))
  g__law_odd_recipes : mg "_law_odd_recipes" = some (.ref (He.ga K "_law_odd_recipes"))
  g__law_renamed : mg "_law_renamed" = some (.ref (He.ga K "_law_renamed"))
  g__law_shuffled : mg "_law_shuffled" = some (.ref (He.ga K "_law_shuffled"))
  g__law_spoiled : mg "_law_spoiled" = some (.ref (He.ga K "_law_spoiled"))
  g_are_arrows : mg "are_arrows" = some (.ref (He.ga K "are_arrows"))
  g_are_goals : mg "are_goals" = some (.ref (He.ga K "are_goals"))
  g_are_recipes : mg "are_recipes" = some (.ref (He.ga K "are_recipes"))
  g_is_between : mg "is_between" = some (.ref (He.ga K "is_between"))
  g_is_index : mg "is_index" = some (.ref (He.ga K "is_index"))
  g_is_integer : mg "is_integer" = some (.ref (He.ga K "is_integer"))
  g_is_lot : mg "is_lot" = some (.ref (He.ga K "is_lot"))
  g_is_recipe : mg "is_recipe" = some (.ref (He.ga K "is_recipe"))
  g_kitchen_order : mg "kitchen_order" = some (.ref (He.ga K "kitchen_order"))
  g_led_to : mg "led_to" = some (.ref (He.ga K "led_to"))
  g_lot_of : mg "lot_of" = some (.ref (He.ga K "lot_of"))
  g_made_from : mg "made_from" = some (.ref (He.ga K "made_from"))
  g_mask_of : mg "mask_of" = some (.ref (He.ga K "mask_of"))
  k__law_bad : PySem.W.keepIn K (.ref (He.ga K "_law_bad")) = true
  k__law_built : PySem.W.keepIn K (.ref (He.ga K "_law_built")) = true
  k__law_draw : PySem.W.keepIn K (.ref (He.ga K "_law_draw")) = true
  k__law_hand : PySem.W.keepIn K (.ref (He.ga K "_law_hand")) = true
  k__law_has_ring : PySem.W.keepIn K (.ref (He.ga K "_law_has_ring")) = true
  k__law_is_lot : PySem.W.keepIn K (.ref (He.ga K "_law_is_lot")) = true
  k__law_is_number : PySem.W.keepIn K (.ref (He.ga K "_law_is_number")) = true
  k__law_is_order : PySem.W.keepIn K (.ref (He.ga K "_law_is_order")) = true
  k__law_is_recipe : PySem.W.keepIn K (.ref (He.ga K "_law_is_recipe")) = true
  k__law_keeps : PySem.W.keepIn K (.ref (He.ga K "_law_keeps")) = true
  k__law_kitchen : PySem.W.keepIn K (.ref (He.ga K "_law_kitchen")) = true
  k__law_made : PySem.W.keepIn K (.ref (He.ga K "_law_made")) = true
  k__law_needs : PySem.W.keepIn K (.ref (He.ga K "_law_needs")) = true
  k__law_odd_part : PySem.W.keepIn K (.ref (He.ga K "_law_odd_part")) = true
  k__law_odd_recipe : PySem.W.keepIn K (.ref (He.ga K "_law_odd_recipe")) = true
  k__law_odd_recipes : PySem.W.keepIn K (.ref (He.ga K "_law_odd_recipes")) = true
  k__law_renamed : PySem.W.keepIn K (.ref (He.ga K "_law_renamed")) = true
  k__law_shuffled : PySem.W.keepIn K (.ref (He.ga K "_law_shuffled")) = true
  k__law_spoiled : PySem.W.keepIn K (.ref (He.ga K "_law_spoiled")) = true
  k_are_arrows : PySem.W.keepIn K (.ref (He.ga K "are_arrows")) = true
  k_are_goals : PySem.W.keepIn K (.ref (He.ga K "are_goals")) = true
  k_are_recipes : PySem.W.keepIn K (.ref (He.ga K "are_recipes")) = true
  k_is_between : PySem.W.keepIn K (.ref (He.ga K "is_between")) = true
  k_is_index : PySem.W.keepIn K (.ref (He.ga K "is_index")) = true
  k_is_integer : PySem.W.keepIn K (.ref (He.ga K "is_integer")) = true
  k_is_lot : PySem.W.keepIn K (.ref (He.ga K "is_lot")) = true
  k_is_recipe : PySem.W.keepIn K (.ref (He.ga K "is_recipe")) = true
  k_kitchen_order : PySem.W.keepIn K (.ref (He.ga K "kitchen_order")) = true
  k_led_to : PySem.W.keepIn K (.ref (He.ga K "led_to")) = true
  k_lot_of : PySem.W.keepIn K (.ref (He.ga K "lot_of")) = true
  k_made_from : PySem.W.keepIn K (.ref (He.ga K "made_from")) = true
  k_mask_of : PySem.W.keepIn K (.ref (He.ga K "mask_of")) = true
  m_Cookery : Mk K (He.ga K "Cookery") (He.ma K (He.ga K "Cookery") "__init__")
  m_Map : Mk K (He.ga K "Map") (He.ma K (He.ga K "Map") "__init__")
  me_Cookery_eq : Meth K (He.ga K "Cookery") "__eq__" (He.ma K (He.ga K "Cookery") "__eq__")
  me_Cookery_given : Meth K (He.ga K "Cookery") "given" (He.ma K (He.ga K "Cookery") "given")
  me_Cookery_goals : Meth K (He.ga K "Cookery") "goals" (He.ma K (He.ga K "Cookery") "goals")
  me_Cookery_many : Meth K (He.ga K "Cookery") "many" (He.ma K (He.ga K "Cookery") "many")
  me_Cookery_parts : Meth K (He.ga K "Cookery") "parts" (He.ma K (He.ga K "Cookery") "parts")
  me_Cookery_recipes : Meth K (He.ga K "Cookery") "recipes" (He.ma K (He.ga K "Cookery") "recipes")
  me_Map_keep : Meth K (He.ga K "Map") "keep" (He.ma K (He.ga K "Map") "keep")
  n_abs : mg "abs" = none
  n_all : mg "all" = none
  n_any : mg "any" = none
  n_bool : mg "bool" = none
  n_enumerate : mg "enumerate" = none
  n_int : mg "int" = none
  n_isinstance : mg "isinstance" = none
  n_len : mg "len" = none
  n_list : mg "list" = none
  n_max : mg "max" = none
  n_min : mg "min" = none
  n_range : mg "range" = none
  n_sorted : mg "sorted" = none
  n_str : mg "str" = none
  n_tuple : mg "tuple" = none
  x_NoCookery : PySem.PZ.Txt P K mg "NoCookery" (He.ga K "NoCookery") (He.ma K (He.ga K "NoCookery") "__init__")
  x_NoMap : PySem.PZ.Txt P K mg "NoMap" (He.ga K "NoMap") (He.ma K (He.ga K "NoMap") "__init__")
  cook : CookTxt K (He.ga K "Cookery")
  map : MapTxt K (He.ga K "Map")
  law : LawTxt K (He.ga K "Cookery") (He.ga K "Map")
  d_Cookery_parts : FnS K "parts" "Cookery.parts" s_Cookery_parts (He.ma K (He.ga K "Cookery") "parts")
  d_Cookery_eq : FnS K "__eq__" "Cookery.__eq__" s_Cookery_eq (He.ma K (He.ga K "Cookery") "__eq__")
  d_is_integer : FnS K "is_integer" "is_integer" s_is_integer (He.ga K "is_integer")
  d_is_between : FnS K "is_between" "is_between" s_is_between (He.ga K "is_between")
  d_is_index : FnS K "is_index" "is_index" s_is_index (He.ga K "is_index")
  d_is_lot : FnS K "is_lot" "is_lot" s_is_lot (He.ga K "is_lot")
  d_is_recipe : FnS K "is_recipe" "is_recipe" s_is_recipe (He.ga K "is_recipe")
  d_are_recipes : FnS K "are_recipes" "are_recipes" s_are_recipes (He.ga K "are_recipes")
  d_mask_of : FnS K "mask_of" "mask_of" s_mask_of (He.ga K "mask_of")
  d_made_from : FnS K "made_from" "made_from" s_made_from (He.ga K "made_from")
  d_Cookery_init : FnS K "__init__" "Cookery.__init__" s_Cookery_init (He.ma K (He.ga K "Cookery") "__init__")
  d_Map_keep : FnS K "keep" "Map.keep" s_Map_keep (He.ma K (He.ga K "Map") "keep")
  d_are_arrows : FnS K "are_arrows" "are_arrows" s_are_arrows (He.ga K "are_arrows")
  d_lot_of : FnS K "lot_of" "lot_of" s_lot_of (He.ga K "lot_of")
  d_led_to : FnS K "led_to" "led_to" s_led_to (He.ga K "led_to")
  d_are_goals : FnS K "are_goals" "are_goals" s_are_goals (He.ga K "are_goals")
  d_Map_init : FnS K "__init__" "Map.__init__" s_Map_init (He.ma K (He.ga K "Map") "__init__")
  d__law_is_number : FnS K "_law_is_number" "_law_is_number" s__law_is_number (He.ga K "_law_is_number")
  d__law_is_lot : FnS K "_law_is_lot" "_law_is_lot" s__law_is_lot (He.ga K "_law_is_lot")
  d__law_is_recipe : FnS K "_law_is_recipe" "_law_is_recipe" s__law_is_recipe (He.ga K "_law_is_recipe")
  d__law_made : FnS K "_law_made" "_law_made" s__law_made (He.ga K "_law_made")
  d__law_bad : FnS K "_law_bad" "_law_bad" s__law_bad (He.ga K "_law_bad")
  d__law_built : FnS K "_law_built" "_law_built" s__law_built (He.ga K "_law_built")
  d__law_draw : FnS K "_law_draw" "_law_draw" s__law_draw (He.ga K "_law_draw")
  d__law_hand : FnS K "_law_hand" "_law_hand" s__law_hand (He.ga K "_law_hand")
  d__law_has_ring : FnS K "_law_has_ring" "_law_has_ring" s__law_has_ring (He.ga K "_law_has_ring")
  d__law_is_order : FnS K "_law_is_order" "_law_is_order" s__law_is_order (He.ga K "_law_is_order")
  d_Cookery_given : FnS K "given" "Cookery.given" s_Cookery_given (He.ma K (He.ga K "Cookery") "given")
  d_Cookery_goals : FnS K "goals" "Cookery.goals" s_Cookery_goals (He.ma K (He.ga K "Cookery") "goals")
  d_Cookery_many : FnS K "many" "Cookery.many" s_Cookery_many (He.ma K (He.ga K "Cookery") "many")
  d_Cookery_recipes : FnS K "recipes" "Cookery.recipes" s_Cookery_recipes (He.ma K (He.ga K "Cookery") "recipes")
  d__law_keeps : FnS K "_law_keeps" "_law_keeps" s__law_keeps (He.ga K "_law_keeps")
  d__law_needs : FnS K "_law_needs" "_law_needs" s__law_needs (He.ga K "_law_needs")
  d__law_shuffled : FnS K "_law_shuffled" "_law_shuffled" s__law_shuffled (He.ga K "_law_shuffled")
  d__law_renamed : FnS K "_law_renamed" "_law_renamed" s__law_renamed (He.ga K "_law_renamed")
  d__law_kitchen : FnS K "_law_kitchen" "_law_kitchen" s__law_kitchen (He.ga K "_law_kitchen")
  d__law_odd_recipe : FnS K "_law_odd_recipe" "_law_odd_recipe" s__law_odd_recipe (He.ga K "_law_odd_recipe")
  d__law_odd_recipes : FnS K "_law_odd_recipes" "_law_odd_recipes" s__law_odd_recipes (He.ga K "_law_odd_recipes")
  d__law_odd_part : FnS K "_law_odd_part" "_law_odd_part" s__law_odd_part (He.ga K "_law_odd_part")
  d__law_spoiled : FnS K "_law_spoiled" "_law_spoiled" s__law_spoiled (He.ga K "_law_spoiled")
  d_kitchen_order : FnS K "kitchen_order" "kitchen_order" s_kitchen_order (He.ga K "kitchen_order")
  d_law : FnS K "law" "law" s_law (He.ga K "law")
section
variable {P : Program} {w : World} {K : PySem.W.Frag} {mg : Str → Option Value} {base : Heap}
theorem ok_Cookery_parts (T : Txt P K mg) : Ok P w K mg base CX0 1 (He.ma K (He.ga K "Cookery") "parts") ["self"] (sp_parts (He.ga K "Cookery")) := by
  obtain ⟨fd, F⟩ := T.d_Cookery_parts
  refine ⟨fd, F.binds fun _ _ _ _ _ _ us hl => match us, hl with | [_], _ => rfl, F.ok sc_Cookery_parts (fun vs H Q E h => ?_) (fun cdv A outer s H vs Q E hr h => ⟨t_Cookery_parts K, ?_, pure_Cookery_parts T.cook vs H Q E h⟩)⟩
  · first | (obtain ⟨rfl, _⟩ := h; rfl) | (obtain ⟨_, rfl, _⟩ := h; rfl) | (obtain ⟨_, _, rfl, _⟩ := h; rfl) | (obtain ⟨_, _, _, rfl, _⟩ := h; rfl) | (obtain ⟨_, _, _, _, rfl, _⟩ := h; rfl) | (obtain ⟨_, _, _, _, _, rfl, _⟩ := h; rfl) | (obtain ⟨_, _, _, _, _, _, rfl, _⟩ := h; rfl) | (obtain ⟨_, _, _, _, _, _, _, rfl, _⟩ := h; rfl) | (obtain ⟨_, _, _, _, _, _, _, _, rfl, _⟩ := h; rfl) | (obtain ⟨_, _, _, _, _, _, _, _, _, rfl, _⟩ := h; rfl) | (obtain ⟨_, _, _, _, _, _, _, _, _, _, rfl, _⟩ := h; rfl) | (obtain ⟨_, _, _, _, _, _, _, _, _, _, _, rfl, _⟩ := h; rfl) | (obtain ⟨_, _, _, _, _, _, _, _, _, _, _, _, rfl, _⟩ := h; rfl) | (obtain ⟨_, _, _, _, _, _, _, _, _, _, _, _, _, rfl, _⟩ := h; rfl) | (obtain ⟨_, _, _, _, _, _, _, _, _, _, _, _, _, _, rfl, _⟩ := h; rfl) | (obtain ⟨_, _, _, _, _, _, _, _, _, _, _, _, _, _, _, rfl, _⟩ := h; rfl) | (obtain ⟨_, _, _, _, _, _, _, _, _, _, _, _, _, _, _, _, rfl, _⟩ := h; rfl)
  · exact (pss_one (ps_ret (pe_tup (pa_cons (pe_fld (pv 0) rfl) (pa_cons (pe_fld (pv 0) rfl) (pa_cons (pe_fld (pv 0) rfl) (pa_cons (pe_fld (pv 0) rfl) pa_nil)))))))
theorem ok_Cookery_eq (T : Txt P K mg) : Ok P w K mg base CX0 2 (He.ma K (He.ga K "Cookery") "__eq__") ["self", "other"] (sp_Cookery_eq K (He.ga K "Cookery")) := by
  obtain ⟨fd_Cookery_parts, b_Cookery_parts, G_Cookery_parts⟩ := ok_Cookery_parts (w := w) (base := base) T
  obtain ⟨fd, F⟩ := T.d_Cookery_eq
  refine ⟨fd, F.binds fun _ _ _ _ _ _ us hl => match us, hl with | [_, _], _ => rfl, F.ok sc_Cookery_eq (fun vs H Q E h => ?_) (fun cdv A outer s H vs Q E hr h => ⟨t_Cookery_eq K (He.ga K "Cookery"), ?_, pure_Cookery_eq T.law.it vs H Q E h⟩)⟩
  · first | (obtain ⟨rfl, _⟩ := h; rfl) | (obtain ⟨_, rfl, _⟩ := h; rfl) | (obtain ⟨_, _, rfl, _⟩ := h; rfl) | (obtain ⟨_, _, _, rfl, _⟩ := h; rfl) | (obtain ⟨_, _, _, _, rfl, _⟩ := h; rfl) | (obtain ⟨_, _, _, _, _, rfl, _⟩ := h; rfl) | (obtain ⟨_, _, _, _, _, _, rfl, _⟩ := h; rfl) | (obtain ⟨_, _, _, _, _, _, _, rfl, _⟩ := h; rfl) | (obtain ⟨_, _, _, _, _, _, _, _, rfl, _⟩ := h; rfl) | (obtain ⟨_, _, _, _, _, _, _, _, _, rfl, _⟩ := h; rfl) | (obtain ⟨_, _, _, _, _, _, _, _, _, _, rfl, _⟩ := h; rfl) | (obtain ⟨_, _, _, _, _, _, _, _, _, _, _, rfl, _⟩ := h; rfl) | (obtain ⟨_, _, _, _, _, _, _, _, _, _, _, _, rfl, _⟩ := h; rfl) | (obtain ⟨_, _, _, _, _, _, _, _, _, _, _, _, _, rfl, _⟩ := h; rfl) | (obtain ⟨_, _, _, _, _, _, _, _, _, _, _, _, _, _, rfl, _⟩ := h; rfl) | (obtain ⟨_, _, _, _, _, _, _, _, _, _, _, _, _, _, _, rfl, _⟩ := h; rfl) | (obtain ⟨_, _, _, _, _, _, _, _, _, _, _, _, _, _, _, _, rfl, _⟩ := h; rfl)
  · exact (pss_one (ps_ret (pe_and (pe_callB u_isC (by rfl) T.n_isinstance (by decide +kernel) (pa_cons (pv 1) (pa_cons (pe_glob (v := .ref (He.ga K "Cookery")) rfl T.g_Cookery rfl) pa_nil))) (pe_one (pe_cmpR (op_eqP hr.units) (pe_meth0 (pv 0) T.cl_Cookery T.me_Cookery_parts G_Cookery_parts (hr.mono (by decide)) b_Cookery_parts .nil pass0) (pe_meth0 (pv 1) T.cl_Cookery T.me_Cookery_parts G_Cookery_parts (hr.mono (by decide)) b_Cookery_parts .nil pass0) (nomark _))))))
theorem ok_is_integer (T : Txt P K mg) : Ok P w K mg base CX0 1 (He.ga K "is_integer") ["thing"] sp_is_integer := by
  obtain ⟨fd, F⟩ := T.d_is_integer
  refine ⟨fd, F.binds fun _ _ _ _ _ _ us hl => match us, hl with | [_], _ => rfl, F.ok sc_is_integer (fun vs H Q E h => ?_) (fun cdv A outer s H vs Q E hr h => ⟨t_is_integer , ?_, pure_is_integer vs H Q E h⟩)⟩
  · first | (obtain ⟨rfl, _⟩ := h; rfl) | (obtain ⟨_, rfl, _⟩ := h; rfl) | (obtain ⟨_, _, rfl, _⟩ := h; rfl) | (obtain ⟨_, _, _, rfl, _⟩ := h; rfl) | (obtain ⟨_, _, _, _, rfl, _⟩ := h; rfl) | (obtain ⟨_, _, _, _, _, rfl, _⟩ := h; rfl) | (obtain ⟨_, _, _, _, _, _, rfl, _⟩ := h; rfl) | (obtain ⟨_, _, _, _, _, _, _, rfl, _⟩ := h; rfl) | (obtain ⟨_, _, _, _, _, _, _, _, rfl, _⟩ := h; rfl) | (obtain ⟨_, _, _, _, _, _, _, _, _, rfl, _⟩ := h; rfl) | (obtain ⟨_, _, _, _, _, _, _, _, _, _, rfl, _⟩ := h; rfl) | (obtain ⟨_, _, _, _, _, _, _, _, _, _, _, rfl, _⟩ := h; rfl) | (obtain ⟨_, _, _, _, _, _, _, _, _, _, _, _, rfl, _⟩ := h; rfl) | (obtain ⟨_, _, _, _, _, _, _, _, _, _, _, _, _, rfl, _⟩ := h; rfl) | (obtain ⟨_, _, _, _, _, _, _, _, _, _, _, _, _, _, rfl, _⟩ := h; rfl) | (obtain ⟨_, _, _, _, _, _, _, _, _, _, _, _, _, _, _, rfl, _⟩ := h; rfl) | (obtain ⟨_, _, _, _, _, _, _, _, _, _, _, _, _, _, _, _, rfl, _⟩ := h; rfl)
  · exact (pss_one (ps_ret (pe_and (pe_callB call_isD (by rfl) T.n_isinstance (by decide +kernel) (pa_cons (pv 0) (pa_cons (pe_bltn (v := .ty "int") rfl T.n_int (by decide +kernel) rfl) pa_nil))) (pe_one (pe_not (pe_callB call_isD (by rfl) T.n_isinstance (by decide +kernel) (pa_cons (pv 0) (pa_cons (pe_bltn (v := .ty "bool") rfl T.n_bool (by decide +kernel) rfl) pa_nil))))))))
theorem ok_is_between (T : Txt P K mg) : Ok P w K mg base CX0 2 (He.ga K "is_between") ["thing", "least", "most"] sp_is_between := by
  obtain ⟨fd_is_integer, b_is_integer, G_is_integer⟩ := ok_is_integer (w := w) (base := base) T
  obtain ⟨fd, F⟩ := T.d_is_between
  refine ⟨fd, F.binds fun _ _ _ _ _ _ us hl => match us, hl with | [_, _, _], _ => rfl, F.ok sc_is_between (fun vs H Q E h => ?_) (fun cdv A outer s H vs Q E hr h => ⟨t_is_between , ?_, pure_is_between vs H Q E h⟩)⟩
  · first | (obtain ⟨rfl, _⟩ := h; rfl) | (obtain ⟨_, rfl, _⟩ := h; rfl) | (obtain ⟨_, _, rfl, _⟩ := h; rfl) | (obtain ⟨_, _, _, rfl, _⟩ := h; rfl) | (obtain ⟨_, _, _, _, rfl, _⟩ := h; rfl) | (obtain ⟨_, _, _, _, _, rfl, _⟩ := h; rfl) | (obtain ⟨_, _, _, _, _, _, rfl, _⟩ := h; rfl) | (obtain ⟨_, _, _, _, _, _, _, rfl, _⟩ := h; rfl) | (obtain ⟨_, _, _, _, _, _, _, _, rfl, _⟩ := h; rfl) | (obtain ⟨_, _, _, _, _, _, _, _, _, rfl, _⟩ := h; rfl) | (obtain ⟨_, _, _, _, _, _, _, _, _, _, rfl, _⟩ := h; rfl) | (obtain ⟨_, _, _, _, _, _, _, _, _, _, _, rfl, _⟩ := h; rfl) | (obtain ⟨_, _, _, _, _, _, _, _, _, _, _, _, rfl, _⟩ := h; rfl) | (obtain ⟨_, _, _, _, _, _, _, _, _, _, _, _, _, rfl, _⟩ := h; rfl) | (obtain ⟨_, _, _, _, _, _, _, _, _, _, _, _, _, _, rfl, _⟩ := h; rfl) | (obtain ⟨_, _, _, _, _, _, _, _, _, _, _, _, _, _, _, rfl, _⟩ := h; rfl) | (obtain ⟨_, _, _, _, _, _, _, _, _, _, _, _, _, _, _, _, rfl, _⟩ := h; rfl)
  · exact (pss_one (ps_ret (pe_and (pe_call G_is_integer (hr.mono (by decide)) rfl T.g_is_integer T.k_is_integer b_is_integer .nil pass0 (pa_cons (pv 0) pa_nil)) (pe_one (pe_chain u_le u_le (pv 1) (pv 0) (pv 2))))))
theorem ok_is_index (T : Txt P K mg) : Ok P w K mg base CX0 3 (He.ga K "is_index") ["thing", "many"] sp_is_index := by
  obtain ⟨fd_is_between, b_is_between, G_is_between⟩ := ok_is_between (w := w) (base := base) T
  obtain ⟨fd, F⟩ := T.d_is_index
  refine ⟨fd, F.binds fun _ _ _ _ _ _ us hl => match us, hl with | [_, _], _ => rfl, F.ok sc_is_index (fun vs H Q E h => ?_) (fun cdv A outer s H vs Q E hr h => ⟨t_is_index , ?_, pure_is_index vs H Q E h⟩)⟩
  · first | (obtain ⟨rfl, _⟩ := h; rfl) | (obtain ⟨_, rfl, _⟩ := h; rfl) | (obtain ⟨_, _, rfl, _⟩ := h; rfl) | (obtain ⟨_, _, _, rfl, _⟩ := h; rfl) | (obtain ⟨_, _, _, _, rfl, _⟩ := h; rfl) | (obtain ⟨_, _, _, _, _, rfl, _⟩ := h; rfl) | (obtain ⟨_, _, _, _, _, _, rfl, _⟩ := h; rfl) | (obtain ⟨_, _, _, _, _, _, _, rfl, _⟩ := h; rfl) | (obtain ⟨_, _, _, _, _, _, _, _, rfl, _⟩ := h; rfl) | (obtain ⟨_, _, _, _, _, _, _, _, _, rfl, _⟩ := h; rfl) | (obtain ⟨_, _, _, _, _, _, _, _, _, _, rfl, _⟩ := h; rfl) | (obtain ⟨_, _, _, _, _, _, _, _, _, _, _, rfl, _⟩ := h; rfl) | (obtain ⟨_, _, _, _, _, _, _, _, _, _, _, _, rfl, _⟩ := h; rfl) | (obtain ⟨_, _, _, _, _, _, _, _, _, _, _, _, _, rfl, _⟩ := h; rfl) | (obtain ⟨_, _, _, _, _, _, _, _, _, _, _, _, _, _, rfl, _⟩ := h; rfl) | (obtain ⟨_, _, _, _, _, _, _, _, _, _, _, _, _, _, _, rfl, _⟩ := h; rfl) | (obtain ⟨_, _, _, _, _, _, _, _, _, _, _, _, _, _, _, _, rfl, _⟩ := h; rfl)
  · exact (pss_one (ps_ret (pe_call G_is_between (hr.mono (by decide)) rfl T.g_is_between T.k_is_between b_is_between .nil pass0 (pa_cons (pv 0) (pa_cons pe_int (pa_cons (pe_op u_sub (pv 1) pe_int) pa_nil))))))
theorem ok_is_lot (T : Txt P K mg) : Ok P w K mg base CX0 4 (He.ga K "is_lot") ["thing", "many"] sp_is_lot := by
  obtain ⟨fd_is_index, b_is_index, G_is_index⟩ := ok_is_index (w := w) (base := base) T
  obtain ⟨fd, F⟩ := T.d_is_lot
  refine ⟨fd, F.binds fun _ _ _ _ _ _ us hl => match us, hl with | [_, _], _ => rfl, F.ok sc_is_lot (fun vs H Q E h => ?_) (fun cdv A outer s H vs Q E hr h => ⟨t_is_lot K, ?_, pure_is_lot vs H Q E h⟩)⟩
  · first | (obtain ⟨rfl, _⟩ := h; rfl) | (obtain ⟨_, rfl, _⟩ := h; rfl) | (obtain ⟨_, _, rfl, _⟩ := h; rfl) | (obtain ⟨_, _, _, rfl, _⟩ := h; rfl) | (obtain ⟨_, _, _, _, rfl, _⟩ := h; rfl) | (obtain ⟨_, _, _, _, _, rfl, _⟩ := h; rfl) | (obtain ⟨_, _, _, _, _, _, rfl, _⟩ := h; rfl) | (obtain ⟨_, _, _, _, _, _, _, rfl, _⟩ := h; rfl) | (obtain ⟨_, _, _, _, _, _, _, _, rfl, _⟩ := h; rfl) | (obtain ⟨_, _, _, _, _, _, _, _, _, rfl, _⟩ := h; rfl) | (obtain ⟨_, _, _, _, _, _, _, _, _, _, rfl, _⟩ := h; rfl) | (obtain ⟨_, _, _, _, _, _, _, _, _, _, _, rfl, _⟩ := h; rfl) | (obtain ⟨_, _, _, _, _, _, _, _, _, _, _, _, rfl, _⟩ := h; rfl) | (obtain ⟨_, _, _, _, _, _, _, _, _, _, _, _, _, rfl, _⟩ := h; rfl) | (obtain ⟨_, _, _, _, _, _, _, _, _, _, _, _, _, _, rfl, _⟩ := h; rfl) | (obtain ⟨_, _, _, _, _, _, _, _, _, _, _, _, _, _, _, rfl, _⟩ := h; rfl) | (obtain ⟨_, _, _, _, _, _, _, _, _, _, _, _, _, _, _, _, rfl, _⟩ := h; rfl)
  · exact (pss_cons (ps_if (pt_not (pt_val (pe_callB call_isD (by rfl) T.n_isinstance (by decide +kernel) (pa_cons (pv 0) (pa_cons (pe_bltn (v := .ty "tuple") rfl T.n_tuple (by decide +kernel) rfl) pa_nil))))) (pss_one (ps_ret pe_bl)) pss_nil)
      (pss_cons (ps_set (i := 2) sc_is_lot.nd rfl (Or.inl rfl) (pe_un u_neg pe_int))
      (pss_cons (ps_for PassesOwn.never rfl (pi_tup (pv 0)) (pg_name (i := 3) sc_is_lot.nd rfl (Or.inl rfl))
      (pss_cons (ps_if (PW.pt (pw_or (pt_not (pt_val (pe_call G_is_index (hr.mono (by decide)) rfl T.g_is_index T.k_is_index b_is_index .nil pass0 (pa_cons (pv 3) (pa_cons (pv 1) pa_nil))))) (pw_or1 (pt_cmpR u_le (pv 3) (pv 2) (nomark _))))) (pss_one (ps_ret pe_bl)) pss_nil)
      (pss_one (ps_set (i := 2) sc_is_lot.nd rfl (Or.inl rfl) (pv 3)))))
      (pss_one (ps_ret pe_bl)))))
theorem ok_is_recipe (T : Txt P K mg) : Ok P w K mg base CX0 5 (He.ga K "is_recipe") ["many", "given", "thing"] sp_is_recipe := by
  obtain ⟨fd_is_index, b_is_index, G_is_index⟩ := ok_is_index (w := w) (base := base) T
  obtain ⟨fd_is_lot, b_is_lot, G_is_lot⟩ := ok_is_lot (w := w) (base := base) T
  obtain ⟨fd, F⟩ := T.d_is_recipe
  refine ⟨fd, F.binds fun _ _ _ _ _ _ us hl => match us, hl with | [_, _, _], _ => rfl, F.ok sc_is_recipe (fun vs H Q E h => ?_) (fun cdv A outer s H vs Q E hr h => ⟨t_is_recipe , ?_, pure_is_recipe vs H Q E h⟩)⟩
  · first | (obtain ⟨rfl, _⟩ := h; rfl) | (obtain ⟨_, rfl, _⟩ := h; rfl) | (obtain ⟨_, _, rfl, _⟩ := h; rfl) | (obtain ⟨_, _, _, rfl, _⟩ := h; rfl) | (obtain ⟨_, _, _, _, rfl, _⟩ := h; rfl) | (obtain ⟨_, _, _, _, _, rfl, _⟩ := h; rfl) | (obtain ⟨_, _, _, _, _, _, rfl, _⟩ := h; rfl) | (obtain ⟨_, _, _, _, _, _, _, rfl, _⟩ := h; rfl) | (obtain ⟨_, _, _, _, _, _, _, _, rfl, _⟩ := h; rfl) | (obtain ⟨_, _, _, _, _, _, _, _, _, rfl, _⟩ := h; rfl) | (obtain ⟨_, _, _, _, _, _, _, _, _, _, rfl, _⟩ := h; rfl) | (obtain ⟨_, _, _, _, _, _, _, _, _, _, _, rfl, _⟩ := h; rfl) | (obtain ⟨_, _, _, _, _, _, _, _, _, _, _, _, rfl, _⟩ := h; rfl) | (obtain ⟨_, _, _, _, _, _, _, _, _, _, _, _, _, rfl, _⟩ := h; rfl) | (obtain ⟨_, _, _, _, _, _, _, _, _, _, _, _, _, _, rfl, _⟩ := h; rfl) | (obtain ⟨_, _, _, _, _, _, _, _, _, _, _, _, _, _, _, rfl, _⟩ := h; rfl) | (obtain ⟨_, _, _, _, _, _, _, _, _, _, _, _, _, _, _, _, rfl, _⟩ := h; rfl)
  · exact (pss_cons (ps_if (PW.pt (pw_or (pt_not (pt_val (pe_callB call_isD (by rfl) T.n_isinstance (by decide +kernel) (pa_cons (pv 2) (pa_cons (pe_bltn (v := .ty "tuple") rfl T.n_tuple (by decide +kernel) rfl) pa_nil))))) (pw_or (pt_cmpR op_ne (pe_callB u_len (by rfl) T.n_len (by decide +kernel) (pa_cons (pv 2) pa_nil)) pe_int (nomark _)) (pw_or (pt_not (pt_val (pe_call G_is_lot (hr.mono (by decide)) rfl T.g_is_lot T.k_is_lot b_is_lot .nil pass0 (pa_cons (pe_ix u_ix (pv 2) pe_int (fun _ _ => rfl)) (pa_cons (pv 0) pa_nil))))) (pw_or1 (pt_cmpR op_eq (pe_callB u_len (by rfl) T.n_len (by decide +kernel) (pa_cons (pe_ix u_ix (pv 2) pe_int (fun _ _ => rfl)) pa_nil)) pe_int (nomark _))))))) (pss_one (ps_ret pe_bl)) pss_nil)
      (pss_one (ps_ret (pe_and (pe_call G_is_index (hr.mono (by decide)) rfl T.g_is_index T.k_is_index b_is_index .nil pass0 (pa_cons (pe_ix u_ix (pv 2) pe_int (fun _ _ => rfl)) (pa_cons (pv 0) pa_nil))) (pe_and (pe_cmpR u_notin (pe_ix u_ix (pv 2) pe_int (fun _ _ => rfl)) (pe_ix u_ix (pv 2) pe_int (fun _ _ => rfl)) rfl) (pe_one (pe_cmpR u_notin (pe_ix u_ix (pv 2) pe_int (fun _ _ => rfl)) (pv 1) rfl)))))))
theorem ok_are_recipes (T : Txt P K mg) : Ok P w K mg base CX0 6 (He.ga K "are_recipes") ["many", "given", "thing"] sp_are_recipes := by
  obtain ⟨fd_is_recipe, b_is_recipe, G_is_recipe⟩ := ok_is_recipe (w := w) (base := base) T
  obtain ⟨fd, F⟩ := T.d_are_recipes
  refine ⟨fd, F.binds fun _ _ _ _ _ _ us hl => match us, hl with | [_, _, _], _ => rfl, F.ok sc_are_recipes (fun vs H Q E h => ?_) (fun cdv A outer s H vs Q E hr h => ⟨t_are_recipes K, ?_, pure_are_recipes vs H Q E h⟩)⟩
  · first | (obtain ⟨rfl, _⟩ := h; rfl) | (obtain ⟨_, rfl, _⟩ := h; rfl) | (obtain ⟨_, _, rfl, _⟩ := h; rfl) | (obtain ⟨_, _, _, rfl, _⟩ := h; rfl) | (obtain ⟨_, _, _, _, rfl, _⟩ := h; rfl) | (obtain ⟨_, _, _, _, _, rfl, _⟩ := h; rfl) | (obtain ⟨_, _, _, _, _, _, rfl, _⟩ := h; rfl) | (obtain ⟨_, _, _, _, _, _, _, rfl, _⟩ := h; rfl) | (obtain ⟨_, _, _, _, _, _, _, _, rfl, _⟩ := h; rfl) | (obtain ⟨_, _, _, _, _, _, _, _, _, rfl, _⟩ := h; rfl) | (obtain ⟨_, _, _, _, _, _, _, _, _, _, rfl, _⟩ := h; rfl) | (obtain ⟨_, _, _, _, _, _, _, _, _, _, _, rfl, _⟩ := h; rfl) | (obtain ⟨_, _, _, _, _, _, _, _, _, _, _, _, rfl, _⟩ := h; rfl) | (obtain ⟨_, _, _, _, _, _, _, _, _, _, _, _, _, rfl, _⟩ := h; rfl) | (obtain ⟨_, _, _, _, _, _, _, _, _, _, _, _, _, _, rfl, _⟩ := h; rfl) | (obtain ⟨_, _, _, _, _, _, _, _, _, _, _, _, _, _, _, rfl, _⟩ := h; rfl) | (obtain ⟨_, _, _, _, _, _, _, _, _, _, _, _, _, _, _, _, rfl, _⟩ := h; rfl)
  · exact (pss_cons (ps_if (PW.pt (pw_or (pt_not (pt_val (pe_callB call_isD (by rfl) T.n_isinstance (by decide +kernel) (pa_cons (pv 2) (pa_cons (pe_bltn (v := .ty "tuple") rfl T.n_tuple (by decide +kernel) rfl) pa_nil))))) (pw_or1 (pt_cmpR u_gt (pe_callB u_len (by rfl) T.n_len (by decide +kernel) (pa_cons (pv 2) pa_nil)) (pe_globE (v := .int 40) rfl T.c_MOST_RECIPES) (nomark _))))) (pss_one (ps_ret pe_bl)) pss_nil)
      (pss_one (ps_ret (pe_callB (u_all rfl) (by rfl) T.n_all (by decide +kernel) (pa_cons (pe_lc (own := [("recipe", 3)]) (g := (gName 3)) (tt := tYes) rfl sc_are_recipes.nd (pi_tup (pv 2)) (blkOk_by (own := [("recipe", 3)]) (N := N_are_recipes) (sc := defScope s_are_recipes) (by decide +kernel)) (fun _ _ _ _ _ => (pg_name (i := 3) sc_are_recipes.nd rfl (Or.inl rfl))) (fun _ _ _ _ _ => pts_nil) (fun _ _ _ _ _ => (pe_call G_is_recipe (hr.mono (by decide)) rfl T.g_is_recipe T.k_is_recipe b_is_recipe .nil pass0 (pa_cons (pv 0) (pa_cons (pv 1) (pa_cons (pv 3) pa_nil)))))) pa_nil)))))
theorem ok_mask_of (T : Txt P K mg) : Ok P w K mg base CX0 1 (He.ga K "mask_of") ["lot"] sp_mask_of := by
  obtain ⟨fd, F⟩ := T.d_mask_of
  refine ⟨fd, F.binds fun _ _ _ _ _ _ us hl => match us, hl with | [_], _ => rfl, F.ok sc_mask_of (fun vs H Q E h => ?_) (fun cdv A outer s H vs Q E hr h => ⟨t_mask_of K, ?_, pure_mask_of vs H Q E h⟩)⟩
  · first | (obtain ⟨rfl, _⟩ := h; rfl) | (obtain ⟨_, rfl, _⟩ := h; rfl) | (obtain ⟨_, _, rfl, _⟩ := h; rfl) | (obtain ⟨_, _, _, rfl, _⟩ := h; rfl) | (obtain ⟨_, _, _, _, rfl, _⟩ := h; rfl) | (obtain ⟨_, _, _, _, _, rfl, _⟩ := h; rfl) | (obtain ⟨_, _, _, _, _, _, rfl, _⟩ := h; rfl) | (obtain ⟨_, _, _, _, _, _, _, rfl, _⟩ := h; rfl) | (obtain ⟨_, _, _, _, _, _, _, _, rfl, _⟩ := h; rfl) | (obtain ⟨_, _, _, _, _, _, _, _, _, rfl, _⟩ := h; rfl) | (obtain ⟨_, _, _, _, _, _, _, _, _, _, rfl, _⟩ := h; rfl) | (obtain ⟨_, _, _, _, _, _, _, _, _, _, _, rfl, _⟩ := h; rfl) | (obtain ⟨_, _, _, _, _, _, _, _, _, _, _, _, rfl, _⟩ := h; rfl) | (obtain ⟨_, _, _, _, _, _, _, _, _, _, _, _, _, rfl, _⟩ := h; rfl) | (obtain ⟨_, _, _, _, _, _, _, _, _, _, _, _, _, _, rfl, _⟩ := h; rfl) | (obtain ⟨_, _, _, _, _, _, _, _, _, _, _, _, _, _, _, rfl, _⟩ := h; rfl) | (obtain ⟨_, _, _, _, _, _, _, _, _, _, _, _, _, _, _, _, rfl, _⟩ := h; rfl)
  · exact (pss_cons (ps_set (i := 1) sc_mask_of.nd rfl (Or.inl rfl) pe_int)
      (pss_cons (ps_for PassesOwn.never rfl (pi_tup (pv 0)) (pg_name (i := 2) sc_mask_of.nd rfl (Or.inl rfl))
      (pss_one (ps_set (i := 1) sc_mask_of.nd rfl (Or.inl rfl) (pe_op u_or (pv 1) (pe_op u_shl pe_int (pv 2))))))
      (pss_one (ps_ret (pv 1)))))
theorem ok_made_from (T : Txt P K mg) : Ok P w K mg base CX0 2 (He.ga K "made_from") ["recipes", "things", "let", "barred"] sp_made_from := by
  obtain ⟨fd_mask_of, b_mask_of, G_mask_of⟩ := ok_mask_of (w := w) (base := base) T
  obtain ⟨fd, F⟩ := T.d_made_from
  refine ⟨fd, F.binds fun _ _ _ _ _ _ us hl => match us, hl with | [_, _, _, _], _ => rfl, F.ok sc_made_from (fun vs H Q E h => ?_) (fun cdv A outer s H vs Q E hr h => ⟨t_made_from K, ?_, pure_made_from vs H Q E h⟩)⟩
  · first | (obtain ⟨rfl, _⟩ := h; rfl) | (obtain ⟨_, rfl, _⟩ := h; rfl) | (obtain ⟨_, _, rfl, _⟩ := h; rfl) | (obtain ⟨_, _, _, rfl, _⟩ := h; rfl) | (obtain ⟨_, _, _, _, rfl, _⟩ := h; rfl) | (obtain ⟨_, _, _, _, _, rfl, _⟩ := h; rfl) | (obtain ⟨_, _, _, _, _, _, rfl, _⟩ := h; rfl) | (obtain ⟨_, _, _, _, _, _, _, rfl, _⟩ := h; rfl) | (obtain ⟨_, _, _, _, _, _, _, _, rfl, _⟩ := h; rfl) | (obtain ⟨_, _, _, _, _, _, _, _, _, rfl, _⟩ := h; rfl) | (obtain ⟨_, _, _, _, _, _, _, _, _, _, rfl, _⟩ := h; rfl) | (obtain ⟨_, _, _, _, _, _, _, _, _, _, _, rfl, _⟩ := h; rfl) | (obtain ⟨_, _, _, _, _, _, _, _, _, _, _, _, rfl, _⟩ := h; rfl) | (obtain ⟨_, _, _, _, _, _, _, _, _, _, _, _, _, rfl, _⟩ := h; rfl) | (obtain ⟨_, _, _, _, _, _, _, _, _, _, _, _, _, _, rfl, _⟩ := h; rfl) | (obtain ⟨_, _, _, _, _, _, _, _, _, _, _, _, _, _, _, rfl, _⟩ := h; rfl) | (obtain ⟨_, _, _, _, _, _, _, _, _, _, _, _, _, _, _, _, rfl, _⟩ := h; rfl)
  · exact (pss_cons (ps_set (i := 4) sc_made_from.nd rfl (Or.inl rfl) pe_bl)
      (pss_cons (ps_while PassesOwn.never (pt_val (pv 4))
      (pss_cons (ps_set (i := 4) sc_made_from.nd rfl (Or.inl rfl) pe_bl)
      (pss_one (ps_for PassesOwn.never rfl (pi_enumT (by rfl) T.n_enumerate (pa_cons (pv 0) pa_nil)) (pg_tup rfl (pgs_cons (pg_name (i := 5) sc_made_from.nd rfl (Or.inl rfl)) (pgs_cons (pg_tup rfl (pgs_cons (pg_name (i := 6) sc_made_from.nd rfl (Or.inl rfl)) (pgs_cons (pg_name (i := 7) sc_made_from.nd rfl (Or.inl rfl)) pgs_nil))) pgs_nil)))
      (pss_one (ps_if (PW.pt (pw_and (pt_truI (pe_op u_and (pe_op u_shr (pv 2) (pv 7)) pe_int) (by intro _; rfl)) (pw_and (pt_not (pt_truI (pe_op u_and (pe_op u_shr (pv 1) (pv 7)) pe_int) (by intro _; rfl))) (pw_and1 (pt_not (pt_truI (pe_op u_and (pe_op u_shr (pv 3) (pv 5)) pe_int) (by intro _; rfl))))))) (pss_one (ps_if (pt_cmpR op_eq (pe_op u_and (pe_call G_mask_of (hr.mono (by decide)) rfl T.g_mask_of T.k_mask_of b_mask_of .nil pass0 (pa_cons (pv 6) pa_nil)) (pe_un u_inv (pv 1))) pe_int (nomark _)) (pss_cons (ps_set (i := 1) sc_made_from.nd rfl (Or.inl rfl) (pe_op u_or (pv 1) (pe_op u_shl pe_int (pv 7))))
      (pss_one (ps_set (i := 4) sc_made_from.nd rfl (Or.inl rfl) pe_bl))) pss_nil)) pss_nil))))))
      (pss_one (ps_ret (pv 1)))))
theorem ok_Cookery_init (T : Txt P K mg) : Ok P w K mg base (L2.CX P w) 7 (He.ma K (He.ga K "Cookery") "__init__") ["self", "many", "given", "recipes", "goals"] (sp_Cookery_init (He.ga K "Cookery") (He.ga K "NoCookery")) := by
  obtain ⟨fd_are_recipes, b_are_recipes, G_are_recipes⟩ := ok_are_recipes (w := w) (base := base) T
  obtain ⟨fd_is_between, b_is_between, G_is_between⟩ := ok_is_between (w := w) (base := base) T
  obtain ⟨fd_is_lot, b_is_lot, G_is_lot⟩ := ok_is_lot (w := w) (base := base) T
  obtain ⟨fd_made_from, b_made_from, G_made_from⟩ := ok_made_from (w := w) (base := base) T
  obtain ⟨fd_mask_of, b_mask_of, G_mask_of⟩ := ok_mask_of (w := w) (base := base) T
  obtain ⟨fd, F⟩ := T.d_Cookery_init
  refine ⟨fd, F.binds fun _ _ _ _ _ _ us hl => match us, hl with | [_, _, _, _, _], _ => rfl, F.okX sc_Cookery_init (fun vs H Q E h => ?_) (fun cdv A outer s H vs Q E hr h => ⟨t_Cookery_init K (He.ga K "NoCookery") E, ?_, pure_Cookery_init T.cook vs H Q E h⟩)⟩
  · first | (obtain ⟨rfl, _⟩ := h; rfl) | (obtain ⟨_, rfl, _⟩ := h; rfl) | (obtain ⟨_, _, rfl, _⟩ := h; rfl) | (obtain ⟨_, _, _, rfl, _⟩ := h; rfl) | (obtain ⟨_, _, _, _, rfl, _⟩ := h; rfl) | (obtain ⟨_, _, _, _, _, rfl, _⟩ := h; rfl) | (obtain ⟨_, _, _, _, _, _, rfl, _⟩ := h; rfl) | (obtain ⟨_, _, _, _, _, _, _, rfl, _⟩ := h; rfl) | (obtain ⟨_, _, _, _, _, _, _, _, rfl, _⟩ := h; rfl) | (obtain ⟨_, _, _, _, _, _, _, _, _, rfl, _⟩ := h; rfl) | (obtain ⟨_, _, _, _, _, _, _, _, _, _, rfl, _⟩ := h; rfl) | (obtain ⟨_, _, _, _, _, _, _, _, _, _, _, rfl, _⟩ := h; rfl) | (obtain ⟨_, _, _, _, _, _, _, _, _, _, _, _, rfl, _⟩ := h; rfl) | (obtain ⟨_, _, _, _, _, _, _, _, _, _, _, _, _, rfl, _⟩ := h; rfl) | (obtain ⟨_, _, _, _, _, _, _, _, _, _, _, _, _, _, rfl, _⟩ := h; rfl) | (obtain ⟨_, _, _, _, _, _, _, _, _, _, _, _, _, _, _, rfl, _⟩ := h; rfl) | (obtain ⟨_, _, _, _, _, _, _, _, _, _, _, _, _, _, _, _, rfl, _⟩ := h; rfl)
  · exact (pss_cons (ps_if (pt_not (pt_val (pe_call G_is_between (hr.mono (by decide)) rfl T.g_is_between T.k_is_between b_is_between .nil pass0 (pa_cons (pv 1) (pa_cons pe_int (pa_cons (pe_globE (v := .int 40) rfl T.c_MOST_THINGS) pa_nil)))))) (pss_one (ps_raiseP rfl T.x_NoCookery hr (takes_of rfl rfl rfl rfl) (pa_cons pe_str pa_nil))) pss_nil)
      (pss_cons (ps_if (pt_not (pt_val (pe_call G_is_lot (hr.mono (by decide)) rfl T.g_is_lot T.k_is_lot b_is_lot .nil pass0 (pa_cons (pv 2) (pa_cons (pv 1) pa_nil))))) (pss_one (ps_raiseP rfl T.x_NoCookery hr (takes_of rfl rfl rfl rfl) (pa_cons pe_str pa_nil))) pss_nil)
      (pss_cons (ps_if (pt_not (pt_val (pe_call G_are_recipes (hr.mono (by decide)) rfl T.g_are_recipes T.k_are_recipes b_are_recipes .nil pass0 (pa_cons (pv 1) (pa_cons (pv 2) (pa_cons (pv 3) pa_nil)))))) (pss_one (ps_raiseP rfl T.x_NoCookery hr (takes_of rfl rfl rfl rfl) (pa_cons pe_str pa_nil))) pss_nil)
      (pss_cons (ps_if (PW.pt (pw_or (pt_not (pt_val (pe_call G_is_lot (hr.mono (by decide)) rfl T.g_is_lot T.k_is_lot b_is_lot .nil pass0 (pa_cons (pv 4) (pa_cons (pv 1) pa_nil))))) (pw_or (pt_cmpR op_eq (pe_callB u_len (by rfl) T.n_len (by decide +kernel) (pa_cons (pv 4) pa_nil)) pe_int (nomark _)) (pw_or1 (pt_val (pe_callB (u_any rfl) (by rfl) T.n_any (by decide +kernel) (pa_cons (pe_lc (own := [("goal", 5)]) (g := (gName 5)) (tt := tYes) rfl sc_Cookery_init.nd (pi_tup (pv 4)) (blkOk_by (own := [("goal", 5)]) (N := N_Cookery_init) (sc := defScope s_Cookery_init) (by decide +kernel)) (fun _ _ _ _ _ => (pg_name (i := 5) sc_Cookery_init.nd rfl (Or.inl rfl))) (fun _ _ _ _ _ => pts_nil) (fun _ _ _ _ _ => (pe_cmpR u_in (pv 5) (pv 2) rfl))) pa_nil))))))) (pss_one (ps_raiseP rfl T.x_NoCookery hr (takes_of rfl rfl rfl rfl) (pa_cons pe_str pa_nil))) pss_nil)
      (pss_cons (ps_if (pt_cmpR u_gt (pe_op u_and (pe_call G_mask_of (hr.mono (by decide)) rfl T.g_mask_of T.k_mask_of b_mask_of .nil pass0 (pa_cons (pv 4) pa_nil)) (pe_un u_inv (pe_call G_made_from (hr.mono (by decide)) rfl T.g_made_from T.k_made_from b_made_from .nil pass0 (pa_cons (pv 3) (pa_cons (pe_call G_mask_of (hr.mono (by decide)) rfl T.g_mask_of T.k_mask_of b_mask_of .nil pass0 (pa_cons (pv 2) pa_nil)) (pa_cons (pe_op u_sub (pe_op u_shl pe_int (pv 1)) pe_int) (pa_cons pe_int pa_nil))))))) pe_int (nomark _)) (pss_one (ps_raiseP rfl T.x_NoCookery hr (takes_of rfl rfl rfl rfl) (pa_cons pe_str pa_nil))) pss_nil)
      (pss_cons (ps_fld (pv 0) (pv 1) rfl)
      (pss_cons (ps_fld (pv 0) (pv 2) rfl)
      (pss_cons (ps_fld (pv 0) (pv 3) rfl)
      (pss_one (ps_fld (pv 0) (pv 4) rfl))))))))))
theorem ok_Map_keep (T : Txt P K mg) : Ok P w K mg base CX0 1 (He.ma K (He.ga K "Map") "keep") ["self", "many", "arrows", "goals"] (sp_Map_keep (He.ga K "Map")) := by
  obtain ⟨fd, F⟩ := T.d_Map_keep
  refine ⟨fd, F.binds fun _ _ _ _ _ _ us hl => match us, hl with | [_, _, _, _], _ => rfl, F.ok sc_Map_keep (fun vs H Q E h => ?_) (fun cdv A outer s H vs Q E hr h => ⟨t_Map_keep K, ?_, pure_Map_keep T.map vs H Q E h⟩)⟩
  · first | (obtain ⟨rfl, _⟩ := h; rfl) | (obtain ⟨_, rfl, _⟩ := h; rfl) | (obtain ⟨_, _, rfl, _⟩ := h; rfl) | (obtain ⟨_, _, _, rfl, _⟩ := h; rfl) | (obtain ⟨_, _, _, _, rfl, _⟩ := h; rfl) | (obtain ⟨_, _, _, _, _, rfl, _⟩ := h; rfl) | (obtain ⟨_, _, _, _, _, _, rfl, _⟩ := h; rfl) | (obtain ⟨_, _, _, _, _, _, _, rfl, _⟩ := h; rfl) | (obtain ⟨_, _, _, _, _, _, _, _, rfl, _⟩ := h; rfl) | (obtain ⟨_, _, _, _, _, _, _, _, _, rfl, _⟩ := h; rfl) | (obtain ⟨_, _, _, _, _, _, _, _, _, _, rfl, _⟩ := h; rfl) | (obtain ⟨_, _, _, _, _, _, _, _, _, _, _, rfl, _⟩ := h; rfl) | (obtain ⟨_, _, _, _, _, _, _, _, _, _, _, _, rfl, _⟩ := h; rfl) | (obtain ⟨_, _, _, _, _, _, _, _, _, _, _, _, _, rfl, _⟩ := h; rfl) | (obtain ⟨_, _, _, _, _, _, _, _, _, _, _, _, _, _, rfl, _⟩ := h; rfl) | (obtain ⟨_, _, _, _, _, _, _, _, _, _, _, _, _, _, _, rfl, _⟩ := h; rfl) | (obtain ⟨_, _, _, _, _, _, _, _, _, _, _, _, _, _, _, _, rfl, _⟩ := h; rfl)
  · exact (pss_cons (ps_fld (pv 0) (pv 1) rfl)
      (pss_cons (ps_fld (pv 0) (pv 2) rfl)
      (pss_cons (ps_fld (pv 0) (pv 3) rfl)
      (pss_one (ps_fld (pv 0) pe_dnewK rfl)))))
theorem ok_are_arrows (T : Txt P K mg) : Ok P w K mg base CX0 4 (He.ga K "are_arrows") ["many", "thing"] sp_are_arrows := by
  obtain ⟨fd_is_index, b_is_index, G_is_index⟩ := ok_is_index (w := w) (base := base) T
  obtain ⟨fd, F⟩ := T.d_are_arrows
  refine ⟨fd, F.binds fun _ _ _ _ _ _ us hl => match us, hl with | [_, _], _ => rfl, F.ok sc_are_arrows (fun vs H Q E h => ?_) (fun cdv A outer s H vs Q E hr h => ⟨t_are_arrows K, ?_, pure_are_arrows vs H Q E h⟩)⟩
  · first | (obtain ⟨rfl, _⟩ := h; rfl) | (obtain ⟨_, rfl, _⟩ := h; rfl) | (obtain ⟨_, _, rfl, _⟩ := h; rfl) | (obtain ⟨_, _, _, rfl, _⟩ := h; rfl) | (obtain ⟨_, _, _, _, rfl, _⟩ := h; rfl) | (obtain ⟨_, _, _, _, _, rfl, _⟩ := h; rfl) | (obtain ⟨_, _, _, _, _, _, rfl, _⟩ := h; rfl) | (obtain ⟨_, _, _, _, _, _, _, rfl, _⟩ := h; rfl) | (obtain ⟨_, _, _, _, _, _, _, _, rfl, _⟩ := h; rfl) | (obtain ⟨_, _, _, _, _, _, _, _, _, rfl, _⟩ := h; rfl) | (obtain ⟨_, _, _, _, _, _, _, _, _, _, rfl, _⟩ := h; rfl) | (obtain ⟨_, _, _, _, _, _, _, _, _, _, _, rfl, _⟩ := h; rfl) | (obtain ⟨_, _, _, _, _, _, _, _, _, _, _, _, rfl, _⟩ := h; rfl) | (obtain ⟨_, _, _, _, _, _, _, _, _, _, _, _, _, rfl, _⟩ := h; rfl) | (obtain ⟨_, _, _, _, _, _, _, _, _, _, _, _, _, _, rfl, _⟩ := h; rfl) | (obtain ⟨_, _, _, _, _, _, _, _, _, _, _, _, _, _, _, rfl, _⟩ := h; rfl) | (obtain ⟨_, _, _, _, _, _, _, _, _, _, _, _, _, _, _, _, rfl, _⟩ := h; rfl)
  · exact (pss_cons (ps_if (pt_not (pt_val (pe_callB call_isD (by rfl) T.n_isinstance (by decide +kernel) (pa_cons (pv 1) (pa_cons (pe_bltn (v := .ty "tuple") rfl T.n_tuple (by decide +kernel) rfl) pa_nil))))) (pss_one (ps_ret pe_bl)) pss_nil)
      (pss_cons (ps_for PassesOwn.never rfl (pi_tup (pv 1)) (pg_name (i := 2) sc_are_arrows.nd rfl (Or.inl rfl))
      (pss_cons (ps_if (PW.pt (pw_or (pt_not (pt_val (pe_callB call_isD (by rfl) T.n_isinstance (by decide +kernel) (pa_cons (pv 2) (pa_cons (pe_bltn (v := .ty "tuple") rfl T.n_tuple (by decide +kernel) rfl) pa_nil))))) (pw_or (pt_cmpR op_ne (pe_callB u_len (by rfl) T.n_len (by decide +kernel) (pa_cons (pv 2) pa_nil)) pe_int (nomark _)) (pw_or1 (pt_not (pt_val (pe_callB (u_all rfl) (by rfl) T.n_all (by decide +kernel) (pa_cons (pe_lc (own := [("place", 3)]) (g := (gName 3)) (tt := tYes) rfl sc_are_arrows.nd (pi_tup (pv 2)) (blkOk_by (own := [("place", 3)]) (N := N_are_arrows) (sc := defScope s_are_arrows) (by decide +kernel)) (fun _ _ _ _ _ => (pg_name (i := 3) sc_are_arrows.nd rfl (Or.inl rfl))) (fun _ _ _ _ _ => pts_nil) (fun _ _ _ _ _ => (pe_call G_is_index (hr.mono (by decide)) rfl T.g_is_index T.k_is_index b_is_index .nil pass0 (pa_cons (pv 3) (pa_cons (pv 0) pa_nil))))) pa_nil)))))))) (pss_one (ps_ret pe_bl)) pss_nil)
      (pss_one (ps_if (pt_cmpR op_eq (pe_ix u_ix (pv 2) pe_int (fun _ _ => rfl)) (pe_ix u_ix (pv 2) pe_int (fun _ _ => rfl)) (nomark _)) (pss_one (ps_ret pe_bl)) pss_nil))))
      (pss_one (ps_ret pe_bl))))
theorem ok_lot_of (T : Txt P K mg) : Ok P w K mg base CX0 1 (He.ga K "lot_of") ["mask"] sp_lot_of := by
  obtain ⟨fd, F⟩ := T.d_lot_of
  refine ⟨fd, F.binds fun _ _ _ _ _ _ us hl => match us, hl with | [_], _ => rfl, F.ok sc_lot_of (fun vs H Q E h => ?_) (fun cdv A outer s H vs Q E hr h => ⟨t_lot_of K, ?_, pure_lot_of vs H Q E h⟩)⟩
  · first | (obtain ⟨rfl, _⟩ := h; rfl) | (obtain ⟨_, rfl, _⟩ := h; rfl) | (obtain ⟨_, _, rfl, _⟩ := h; rfl) | (obtain ⟨_, _, _, rfl, _⟩ := h; rfl) | (obtain ⟨_, _, _, _, rfl, _⟩ := h; rfl) | (obtain ⟨_, _, _, _, _, rfl, _⟩ := h; rfl) | (obtain ⟨_, _, _, _, _, _, rfl, _⟩ := h; rfl) | (obtain ⟨_, _, _, _, _, _, _, rfl, _⟩ := h; rfl) | (obtain ⟨_, _, _, _, _, _, _, _, rfl, _⟩ := h; rfl) | (obtain ⟨_, _, _, _, _, _, _, _, _, rfl, _⟩ := h; rfl) | (obtain ⟨_, _, _, _, _, _, _, _, _, _, rfl, _⟩ := h; rfl) | (obtain ⟨_, _, _, _, _, _, _, _, _, _, _, rfl, _⟩ := h; rfl) | (obtain ⟨_, _, _, _, _, _, _, _, _, _, _, _, rfl, _⟩ := h; rfl) | (obtain ⟨_, _, _, _, _, _, _, _, _, _, _, _, _, rfl, _⟩ := h; rfl) | (obtain ⟨_, _, _, _, _, _, _, _, _, _, _, _, _, _, rfl, _⟩ := h; rfl) | (obtain ⟨_, _, _, _, _, _, _, _, _, _, _, _, _, _, _, rfl, _⟩ := h; rfl) | (obtain ⟨_, _, _, _, _, _, _, _, _, _, _, _, _, _, _, _, rfl, _⟩ := h; rfl)
  · exact (pss_cons (ps_set (i := 1) sc_lot_of.nd rfl (Or.inl rfl) (pe_lst pa_nil))
      (pss_cons (ps_set (i := 2) sc_lot_of.nd rfl (Or.inl rfl) pe_int)
      (pss_cons (ps_while PassesOwn.never (pt_cmpR u_gt (pv 0) pe_int (nomark _))
      (pss_cons (ps_if (pt_truI (pe_op u_and (pv 0) pe_int) (by intro _; rfl)) (pss_one (ps_expr (pe_bm PySem.F.plainAttrs_list PySem.F.slot_list_append PySem.F.type_list_append mt_append (pv 1) (pa_cons (pv 2) pa_nil)))) pss_nil)
      (pss_cons (ps_set (i := 0) sc_lot_of.nd rfl (Or.inl rfl) (pe_op u_shr (pv 0) pe_int))
      (pss_one (ps_aug (i := 2) sc_lot_of.nd rfl (.inl rfl) pe_int ip_add)))))
      (pss_one (ps_ret (pe_callTy u_tup (by rfl) T.n_tuple (by decide +kernel) (pa_cons (pv 1) pa_nil)))))))
theorem ok_led_to (T : Txt P K mg) : Ok P w K mg base CX0 2 (He.ga K "led_to") ["arrows", "begin", "let", "barred"] sp_led_to := by
  obtain ⟨fd_lot_of, b_lot_of, G_lot_of⟩ := ok_lot_of (w := w) (base := base) T
  obtain ⟨fd, F⟩ := T.d_led_to
  refine ⟨fd, F.binds fun _ _ _ _ _ _ us hl => match us, hl with | [_, _, _, _], _ => rfl, F.ok sc_led_to (fun vs H Q E h => ?_) (fun cdv A outer s H vs Q E hr h => ⟨t_led_to K, ?_, pure_led_to vs H Q E h⟩)⟩
  · first | (obtain ⟨rfl, _⟩ := h; rfl) | (obtain ⟨_, rfl, _⟩ := h; rfl) | (obtain ⟨_, _, rfl, _⟩ := h; rfl) | (obtain ⟨_, _, _, rfl, _⟩ := h; rfl) | (obtain ⟨_, _, _, _, rfl, _⟩ := h; rfl) | (obtain ⟨_, _, _, _, _, rfl, _⟩ := h; rfl) | (obtain ⟨_, _, _, _, _, _, rfl, _⟩ := h; rfl) | (obtain ⟨_, _, _, _, _, _, _, rfl, _⟩ := h; rfl) | (obtain ⟨_, _, _, _, _, _, _, _, rfl, _⟩ := h; rfl) | (obtain ⟨_, _, _, _, _, _, _, _, _, rfl, _⟩ := h; rfl) | (obtain ⟨_, _, _, _, _, _, _, _, _, _, rfl, _⟩ := h; rfl) | (obtain ⟨_, _, _, _, _, _, _, _, _, _, _, rfl, _⟩ := h; rfl) | (obtain ⟨_, _, _, _, _, _, _, _, _, _, _, _, rfl, _⟩ := h; rfl) | (obtain ⟨_, _, _, _, _, _, _, _, _, _, _, _, _, rfl, _⟩ := h; rfl) | (obtain ⟨_, _, _, _, _, _, _, _, _, _, _, _, _, _, rfl, _⟩ := h; rfl) | (obtain ⟨_, _, _, _, _, _, _, _, _, _, _, _, _, _, _, rfl, _⟩ := h; rfl) | (obtain ⟨_, _, _, _, _, _, _, _, _, _, _, _, _, _, _, _, rfl, _⟩ := h; rfl)
  · exact (pss_cons (ps_set (i := 4) sc_led_to.nd rfl (Or.inl rfl) pe_dnewK)
      (pss_cons (ps_for PassesOwn.never rfl (pi_enumT (by rfl) T.n_enumerate (pa_cons (pv 0) pa_nil)) (pg_tup rfl (pgs_cons (pg_name (i := 5) sc_led_to.nd rfl (Or.inl rfl)) (pgs_cons (pg_tup rfl (pgs_cons (pg_name (i := 6) sc_led_to.nd rfl (Or.inl rfl)) (pgs_cons (pg_name (i := 7) sc_led_to.nd rfl (Or.inl rfl)) pgs_nil))) pgs_nil)))
      (pss_one (ps_if (PW.pt (pw_and (pt_truI (pe_op u_and (pe_op u_shr (pv 2) (pv 7)) pe_int) (by intro _; rfl)) (pw_and1 (pt_not (pt_truI (pe_op u_and (pe_op u_shr (pv 3) (pv 5)) pe_int) (by intro _; rfl)))))) (pss_one (ps_expr (pe_bm PySem.F.plainAttrs_list PySem.F.slot_list_append PySem.F.type_list_append mt_append (pe_dsetd (pv 4) (pv 6) (pe_lst pa_nil) ⟨rfl, rfl, rfl, rfl⟩) (pa_cons (pv 7) pa_nil)))) pss_nil)))
      (pss_cons (ps_set (i := 8) sc_led_to.nd rfl (Or.inl rfl) (pv 1))
      (pss_cons (ps_set (i := 9) sc_led_to.nd rfl (Or.inl rfl) (pe_callTy u_lst (by rfl) T.n_list (by decide +kernel) (pa_cons (pe_call G_lot_of (hr.mono (by decide)) rfl T.g_lot_of T.k_lot_of b_lot_of .nil pass0 (pa_cons (pv 1) pa_nil)) pa_nil)))
      (pss_cons (ps_while PassesOwn.never (pt_cmpR u_gt (pe_callB u_len (by rfl) T.n_len (by decide +kernel) (pa_cons (pv 9) pa_nil)) pe_int (nomark _))
      (pss_one (ps_for PassesOwn.never rfl (pi_list (pe_dget2 (hu_of hr) (pv 4) (pe_bm0 PySem.F.plainAttrs_list PySem.F.slot_list_pop PySem.F.type_list_pop mt_pop (pv 9)) (pe_lst pa_nil) ⟨rfl, rfl, rfl, rfl⟩)) (pg_name (i := 7) sc_led_to.nd rfl (Or.inl rfl))
      (pss_one (ps_if (pt_not (pt_truI (pe_op u_and (pe_op u_shr (pv 8) (pv 7)) pe_int) (by intro _; rfl))) (pss_cons (ps_set (i := 8) sc_led_to.nd rfl (Or.inl rfl) (pe_op u_or (pv 8) (pe_op u_shl pe_int (pv 7))))
      (pss_one (ps_expr (pe_bm PySem.F.plainAttrs_list PySem.F.slot_list_append PySem.F.type_list_append mt_append (pv 9) (pa_cons (pv 7) pa_nil))))) pss_nil)))))
      (pss_one (ps_ret (pv 8))))))))
theorem ok_are_goals (T : Txt P K mg) : Ok P w K mg base CX0 5 (He.ga K "are_goals") ["many", "arrows", "thing"] sp_are_goals := by
  obtain ⟨fd_is_lot, b_is_lot, G_is_lot⟩ := ok_is_lot (w := w) (base := base) T
  obtain ⟨fd_led_to, b_led_to, G_led_to⟩ := ok_led_to (w := w) (base := base) T
  obtain ⟨fd_mask_of, b_mask_of, G_mask_of⟩ := ok_mask_of (w := w) (base := base) T
  obtain ⟨fd, F⟩ := T.d_are_goals
  refine ⟨fd, F.binds fun _ _ _ _ _ _ us hl => match us, hl with | [_, _, _], _ => rfl, F.ok sc_are_goals (fun vs H Q E h => ?_) (fun cdv A outer s H vs Q E hr h => ⟨t_are_goals , ?_, pure_are_goals vs H Q E h⟩)⟩
  · first | (obtain ⟨rfl, _⟩ := h; rfl) | (obtain ⟨_, rfl, _⟩ := h; rfl) | (obtain ⟨_, _, rfl, _⟩ := h; rfl) | (obtain ⟨_, _, _, rfl, _⟩ := h; rfl) | (obtain ⟨_, _, _, _, rfl, _⟩ := h; rfl) | (obtain ⟨_, _, _, _, _, rfl, _⟩ := h; rfl) | (obtain ⟨_, _, _, _, _, _, rfl, _⟩ := h; rfl) | (obtain ⟨_, _, _, _, _, _, _, rfl, _⟩ := h; rfl) | (obtain ⟨_, _, _, _, _, _, _, _, rfl, _⟩ := h; rfl) | (obtain ⟨_, _, _, _, _, _, _, _, _, rfl, _⟩ := h; rfl) | (obtain ⟨_, _, _, _, _, _, _, _, _, _, rfl, _⟩ := h; rfl) | (obtain ⟨_, _, _, _, _, _, _, _, _, _, _, rfl, _⟩ := h; rfl) | (obtain ⟨_, _, _, _, _, _, _, _, _, _, _, _, rfl, _⟩ := h; rfl) | (obtain ⟨_, _, _, _, _, _, _, _, _, _, _, _, _, rfl, _⟩ := h; rfl) | (obtain ⟨_, _, _, _, _, _, _, _, _, _, _, _, _, _, rfl, _⟩ := h; rfl) | (obtain ⟨_, _, _, _, _, _, _, _, _, _, _, _, _, _, _, rfl, _⟩ := h; rfl) | (obtain ⟨_, _, _, _, _, _, _, _, _, _, _, _, _, _, _, _, rfl, _⟩ := h; rfl)
  · exact (pss_cons (ps_if (PW.pt (pw_or (pt_not (pt_val (pe_call G_is_lot (hr.mono (by decide)) rfl T.g_is_lot T.k_is_lot b_is_lot .nil pass0 (pa_cons (pv 2) (pa_cons (pv 0) pa_nil))))) (pw_or (pt_cmpR op_eq (pe_callB u_len (by rfl) T.n_len (by decide +kernel) (pa_cons (pv 2) pa_nil)) pe_int (nomark _)) (pw_or1 (pt_cmpR op_eq (pe_ix u_ix (pv 2) pe_int (fun _ _ => rfl)) pe_int (nomark _)))))) (pss_one (ps_ret pe_bl)) pss_nil)
      (pss_cons (ps_set (i := 3) sc_are_goals.nd rfl (Or.inl rfl) (pe_call G_led_to (hr.mono (by decide)) rfl T.g_led_to T.k_led_to b_led_to .nil pass0 (pa_cons (pv 1) (pa_cons pe_int (pa_cons (pe_op u_sub (pe_op u_shl pe_int (pv 0)) pe_int) (pa_cons pe_int pa_nil))))))
      (pss_one (ps_ret (pe_cmpR op_eq (pe_op u_and (pe_call G_mask_of (hr.mono (by decide)) rfl T.g_mask_of T.k_mask_of b_mask_of .nil pass0 (pa_cons (pv 2) pa_nil)) (pe_un u_inv (pv 3))) pe_int (nomark _))))))
theorem ok_Map_init (T : Txt P K mg) : Ok P w K mg base (L2.CX P w) 6 (He.ma K (He.ga K "Map") "__init__") ["self", "many", "arrows", "goals"] (sp_Map_mk (He.ga K "Map") (He.ga K "NoMap")) := by
  obtain ⟨fd_Map_keep, b_Map_keep, G_Map_keep⟩ := ok_Map_keep (w := w) (base := base) T
  obtain ⟨fd_are_arrows, b_are_arrows, G_are_arrows⟩ := ok_are_arrows (w := w) (base := base) T
  obtain ⟨fd_are_goals, b_are_goals, G_are_goals⟩ := ok_are_goals (w := w) (base := base) T
  obtain ⟨fd_is_between, b_is_between, G_is_between⟩ := ok_is_between (w := w) (base := base) T
  obtain ⟨fd, F⟩ := T.d_Map_init
  refine ⟨fd, F.binds fun _ _ _ _ _ _ us hl => match us, hl with | [_, _, _, _], _ => rfl, F.okX sc_Map_init (fun vs H Q E h => ?_) (fun cdv A outer s H vs Q E hr h => ⟨t_Map_init (He.ga K "NoMap") (He.ga K "Map") E, ?_, pure_Map_init vs H Q E h⟩)⟩
  · first | (obtain ⟨rfl, _⟩ := h; rfl) | (obtain ⟨_, rfl, _⟩ := h; rfl) | (obtain ⟨_, _, rfl, _⟩ := h; rfl) | (obtain ⟨_, _, _, rfl, _⟩ := h; rfl) | (obtain ⟨_, _, _, _, rfl, _⟩ := h; rfl) | (obtain ⟨_, _, _, _, _, rfl, _⟩ := h; rfl) | (obtain ⟨_, _, _, _, _, _, rfl, _⟩ := h; rfl) | (obtain ⟨_, _, _, _, _, _, _, rfl, _⟩ := h; rfl) | (obtain ⟨_, _, _, _, _, _, _, _, rfl, _⟩ := h; rfl) | (obtain ⟨_, _, _, _, _, _, _, _, _, rfl, _⟩ := h; rfl) | (obtain ⟨_, _, _, _, _, _, _, _, _, _, rfl, _⟩ := h; rfl) | (obtain ⟨_, _, _, _, _, _, _, _, _, _, _, rfl, _⟩ := h; rfl) | (obtain ⟨_, _, _, _, _, _, _, _, _, _, _, _, rfl, _⟩ := h; rfl) | (obtain ⟨_, _, _, _, _, _, _, _, _, _, _, _, _, rfl, _⟩ := h; rfl) | (obtain ⟨_, _, _, _, _, _, _, _, _, _, _, _, _, _, rfl, _⟩ := h; rfl) | (obtain ⟨_, _, _, _, _, _, _, _, _, _, _, _, _, _, _, rfl, _⟩ := h; rfl) | (obtain ⟨_, _, _, _, _, _, _, _, _, _, _, _, _, _, _, _, rfl, _⟩ := h; rfl)
  · exact (pss_cons (ps_if (pt_not (pt_val (pe_call G_is_between (hr.mono (by decide)) rfl T.g_is_between T.k_is_between b_is_between .nil pass0 (pa_cons (pv 1) (pa_cons pe_int (pa_cons (pe_globE (v := .int 40) rfl T.c_MOST_PLACES) pa_nil)))))) (pss_one (ps_raiseP rfl T.x_NoMap hr (takes_of rfl rfl rfl rfl) (pa_cons pe_str pa_nil))) pss_nil)
      (pss_cons (ps_if (PW.pt (pw_or (pt_not (pt_val (pe_call G_are_arrows (hr.mono (by decide)) rfl T.g_are_arrows T.k_are_arrows b_are_arrows .nil pass0 (pa_cons (pv 1) (pa_cons (pv 2) pa_nil))))) (pw_or1 (pt_cmpR u_gt (pe_callB u_len (by rfl) T.n_len (by decide +kernel) (pa_cons (pv 2) pa_nil)) (pe_globE (v := .int 60) rfl T.c_MOST_ARROWS) (nomark _))))) (pss_one (ps_raiseP rfl T.x_NoMap hr (takes_of rfl rfl rfl rfl) (pa_cons pe_str pa_nil))) pss_nil)
      (pss_cons (ps_if (pt_not (pt_val (pe_call G_are_goals (hr.mono (by decide)) rfl T.g_are_goals T.k_are_goals b_are_goals .nil pass0 (pa_cons (pv 1) (pa_cons (pv 2) (pa_cons (pv 3) pa_nil)))))) (pss_one (ps_raiseP rfl T.x_NoMap hr (takes_of rfl rfl rfl rfl) (pa_cons pe_str pa_nil))) pss_nil)
      (pss_one (ps_expr (pe_meth (pv 0) T.cl_Map T.me_Map_keep G_Map_keep (hr.mono (by decide)) b_Map_keep .nil pass0 (pa_cons (pv 1) (pa_cons (pv 2) (pa_cons (pv 3) pa_nil)))))))))
theorem ok__law_is_number (T : Txt P K mg) : Ok P w K mg base CX0 1 (He.ga K "_law_is_number") ["_law_thing", "_law_many"] sp__law_is_number := by
  obtain ⟨fd, F⟩ := T.d__law_is_number
  refine ⟨fd, F.binds fun _ _ _ _ _ _ us hl => match us, hl with | [_, _], _ => rfl, F.ok sc__law_is_number (fun vs H Q E h => ?_) (fun cdv A outer s H vs Q E hr h => ⟨t__law_is_number , ?_, pure__law_is_number vs H Q E h⟩)⟩
  · first | (obtain ⟨rfl, _⟩ := h; rfl) | (obtain ⟨_, rfl, _⟩ := h; rfl) | (obtain ⟨_, _, rfl, _⟩ := h; rfl) | (obtain ⟨_, _, _, rfl, _⟩ := h; rfl) | (obtain ⟨_, _, _, _, rfl, _⟩ := h; rfl) | (obtain ⟨_, _, _, _, _, rfl, _⟩ := h; rfl) | (obtain ⟨_, _, _, _, _, _, rfl, _⟩ := h; rfl) | (obtain ⟨_, _, _, _, _, _, _, rfl, _⟩ := h; rfl) | (obtain ⟨_, _, _, _, _, _, _, _, rfl, _⟩ := h; rfl) | (obtain ⟨_, _, _, _, _, _, _, _, _, rfl, _⟩ := h; rfl) | (obtain ⟨_, _, _, _, _, _, _, _, _, _, rfl, _⟩ := h; rfl) | (obtain ⟨_, _, _, _, _, _, _, _, _, _, _, rfl, _⟩ := h; rfl) | (obtain ⟨_, _, _, _, _, _, _, _, _, _, _, _, rfl, _⟩ := h; rfl) | (obtain ⟨_, _, _, _, _, _, _, _, _, _, _, _, _, rfl, _⟩ := h; rfl) | (obtain ⟨_, _, _, _, _, _, _, _, _, _, _, _, _, _, rfl, _⟩ := h; rfl) | (obtain ⟨_, _, _, _, _, _, _, _, _, _, _, _, _, _, _, rfl, _⟩ := h; rfl) | (obtain ⟨_, _, _, _, _, _, _, _, _, _, _, _, _, _, _, _, rfl, _⟩ := h; rfl)
  · exact (pss_one (ps_ret (pe_and (pe_callB call_isD (by rfl) T.n_isinstance (by decide +kernel) (pa_cons (pv 0) (pa_cons (pe_bltn (v := .ty "int") rfl T.n_int (by decide +kernel) rfl) pa_nil))) (pe_and (pe_not (pe_callB call_isD (by rfl) T.n_isinstance (by decide +kernel) (pa_cons (pv 0) (pa_cons (pe_bltn (v := .ty "bool") rfl T.n_bool (by decide +kernel) rfl) pa_nil)))) (pe_one (pe_chain u_le u_lt pe_int (pv 0) (pv 1)))))))
theorem ok__law_is_lot (T : Txt P K mg) : Ok P w K mg base CX0 2 (He.ga K "_law_is_lot") ["_law_thing", "_law_many"] sp__law_is_lot := by
  obtain ⟨fd__law_is_number, b__law_is_number, G__law_is_number⟩ := ok__law_is_number (w := w) (base := base) T
  obtain ⟨fd, F⟩ := T.d__law_is_lot
  refine ⟨fd, F.binds fun _ _ _ _ _ _ us hl => match us, hl with | [_, _], _ => rfl, F.ok sc__law_is_lot (fun vs H Q E h => ?_) (fun cdv A outer s H vs Q E hr h => ⟨t__law_is_lot K, ?_, pure__law_is_lot vs H Q E h⟩)⟩
  · first | (obtain ⟨rfl, _⟩ := h; rfl) | (obtain ⟨_, rfl, _⟩ := h; rfl) | (obtain ⟨_, _, rfl, _⟩ := h; rfl) | (obtain ⟨_, _, _, rfl, _⟩ := h; rfl) | (obtain ⟨_, _, _, _, rfl, _⟩ := h; rfl) | (obtain ⟨_, _, _, _, _, rfl, _⟩ := h; rfl) | (obtain ⟨_, _, _, _, _, _, rfl, _⟩ := h; rfl) | (obtain ⟨_, _, _, _, _, _, _, rfl, _⟩ := h; rfl) | (obtain ⟨_, _, _, _, _, _, _, _, rfl, _⟩ := h; rfl) | (obtain ⟨_, _, _, _, _, _, _, _, _, rfl, _⟩ := h; rfl) | (obtain ⟨_, _, _, _, _, _, _, _, _, _, rfl, _⟩ := h; rfl) | (obtain ⟨_, _, _, _, _, _, _, _, _, _, _, rfl, _⟩ := h; rfl) | (obtain ⟨_, _, _, _, _, _, _, _, _, _, _, _, rfl, _⟩ := h; rfl) | (obtain ⟨_, _, _, _, _, _, _, _, _, _, _, _, _, rfl, _⟩ := h; rfl) | (obtain ⟨_, _, _, _, _, _, _, _, _, _, _, _, _, _, rfl, _⟩ := h; rfl) | (obtain ⟨_, _, _, _, _, _, _, _, _, _, _, _, _, _, _, rfl, _⟩ := h; rfl) | (obtain ⟨_, _, _, _, _, _, _, _, _, _, _, _, _, _, _, _, rfl, _⟩ := h; rfl)
  · exact (pss_cons (ps_if (PW.pt (pw_or (pt_not (pt_val (pe_callB call_isD (by rfl) T.n_isinstance (by decide +kernel) (pa_cons (pv 0) (pa_cons (pe_bltn (v := .ty "tuple") rfl T.n_tuple (by decide +kernel) rfl) pa_nil))))) (pw_or1 (pt_not (pt_val (pe_callB (u_all rfl) (by rfl) T.n_all (by decide +kernel) (pa_cons (pe_lc (own := [("_law_one", 2)]) (g := (gName 2)) (tt := tYes) rfl sc__law_is_lot.nd (pi_tup (pv 0)) (blkOk_by (own := [("_law_one", 2)]) (N := N__law_is_lot) (sc := defScope s__law_is_lot) (by decide +kernel)) (fun _ _ _ _ _ => (pg_name (i := 2) sc__law_is_lot.nd rfl (Or.inl rfl))) (fun _ _ _ _ _ => pts_nil) (fun _ _ _ _ _ => (pe_call G__law_is_number (hr.mono (by decide)) rfl T.g__law_is_number T.k__law_is_number b__law_is_number .nil pass0 (pa_cons (pv 2) (pa_cons (pv 1) pa_nil))))) pa_nil))))))) (pss_one (ps_ret pe_bl)) pss_nil)
      (pss_one (ps_ret (pe_callB (u_all rfl) (by rfl) T.n_all (by decide +kernel) (pa_cons (pe_lc (own := [("_law_k", 3)]) (g := (gName 3)) (tt := tYes) rfl sc__law_is_lot.nd (pi_range1 rfl T.n_range (pa_cons (pe_op u_sub (pe_callB u_len (by rfl) T.n_len (by decide +kernel) (pa_cons (pv 0) pa_nil)) pe_int) pa_nil)) (blkOk_by (own := [("_law_k", 3)]) (N := N__law_is_lot) (sc := defScope s__law_is_lot) (by decide +kernel)) (fun _ _ _ _ _ => (pg_name (i := 3) sc__law_is_lot.nd rfl (Or.inl rfl))) (fun _ _ _ _ _ => pts_nil) (fun _ _ _ _ _ => (pe_cmpR u_lt (pe_ix u_ix (pv 0) (pv 3) (fun _ _ => rfl)) (pe_ix u_ix (pv 0) (pe_op u_add (pv 3) pe_int) (fun _ _ => rfl)) (nomark _)))) pa_nil)))))
theorem ok__law_is_recipe (T : Txt P K mg) : Ok P w K mg base CX0 3 (He.ga K "_law_is_recipe") ["_law_many", "_law_there", "_law_thing"] sp__law_is_recipe := by
  obtain ⟨fd__law_is_lot, b__law_is_lot, G__law_is_lot⟩ := ok__law_is_lot (w := w) (base := base) T
  obtain ⟨fd__law_is_number, b__law_is_number, G__law_is_number⟩ := ok__law_is_number (w := w) (base := base) T
  obtain ⟨fd, F⟩ := T.d__law_is_recipe
  refine ⟨fd, F.binds fun _ _ _ _ _ _ us hl => match us, hl with | [_, _, _], _ => rfl, F.ok sc__law_is_recipe (fun vs H Q E h => ?_) (fun cdv A outer s H vs Q E hr h => ⟨t__law_is_recipe , ?_, pure__law_is_recipe vs H Q E h⟩)⟩
  · first | (obtain ⟨rfl, _⟩ := h; rfl) | (obtain ⟨_, rfl, _⟩ := h; rfl) | (obtain ⟨_, _, rfl, _⟩ := h; rfl) | (obtain ⟨_, _, _, rfl, _⟩ := h; rfl) | (obtain ⟨_, _, _, _, rfl, _⟩ := h; rfl) | (obtain ⟨_, _, _, _, _, rfl, _⟩ := h; rfl) | (obtain ⟨_, _, _, _, _, _, rfl, _⟩ := h; rfl) | (obtain ⟨_, _, _, _, _, _, _, rfl, _⟩ := h; rfl) | (obtain ⟨_, _, _, _, _, _, _, _, rfl, _⟩ := h; rfl) | (obtain ⟨_, _, _, _, _, _, _, _, _, rfl, _⟩ := h; rfl) | (obtain ⟨_, _, _, _, _, _, _, _, _, _, rfl, _⟩ := h; rfl) | (obtain ⟨_, _, _, _, _, _, _, _, _, _, _, rfl, _⟩ := h; rfl) | (obtain ⟨_, _, _, _, _, _, _, _, _, _, _, _, rfl, _⟩ := h; rfl) | (obtain ⟨_, _, _, _, _, _, _, _, _, _, _, _, _, rfl, _⟩ := h; rfl) | (obtain ⟨_, _, _, _, _, _, _, _, _, _, _, _, _, _, rfl, _⟩ := h; rfl) | (obtain ⟨_, _, _, _, _, _, _, _, _, _, _, _, _, _, _, rfl, _⟩ := h; rfl) | (obtain ⟨_, _, _, _, _, _, _, _, _, _, _, _, _, _, _, _, rfl, _⟩ := h; rfl)
  · exact (pss_cons (ps_if (PW.pt (pw_or (pt_not (pt_val (pe_callB call_isD (by rfl) T.n_isinstance (by decide +kernel) (pa_cons (pv 2) (pa_cons (pe_bltn (v := .ty "tuple") rfl T.n_tuple (by decide +kernel) rfl) pa_nil))))) (pw_or1 (pt_cmpR op_ne (pe_callB u_len (by rfl) T.n_len (by decide +kernel) (pa_cons (pv 2) pa_nil)) pe_int (nomark _))))) (pss_one (ps_ret pe_bl)) pss_nil)
      (pss_cons (ps_if (PW.pt (pw_or (pt_not (pt_val (pe_call G__law_is_lot (hr.mono (by decide)) rfl T.g__law_is_lot T.k__law_is_lot b__law_is_lot .nil pass0 (pa_cons (pe_ix u_ix (pv 2) pe_int (fun _ _ => rfl)) (pa_cons (pv 0) pa_nil))))) (pw_or (pt_cmpR op_eq (pe_callB u_len (by rfl) T.n_len (by decide +kernel) (pa_cons (pe_ix u_ix (pv 2) pe_int (fun _ _ => rfl)) pa_nil)) pe_int (nomark _)) (pw_or1 (pt_not (pt_val (pe_call G__law_is_number (hr.mono (by decide)) rfl T.g__law_is_number T.k__law_is_number b__law_is_number .nil pass0 (pa_cons (pe_ix u_ix (pv 2) pe_int (fun _ _ => rfl)) (pa_cons (pv 0) pa_nil))))))))) (pss_one (ps_ret pe_bl)) pss_nil)
      (pss_one (ps_ret (pe_and (pe_cmpR u_notin (pe_ix u_ix (pv 2) pe_int (fun _ _ => rfl)) (pe_ix u_ix (pv 2) pe_int (fun _ _ => rfl)) rfl) (pe_one (pe_cmpR u_notin (pe_ix u_ix (pv 2) pe_int (fun _ _ => rfl)) (pv 1) rfl)))))))
theorem ok__law_made (T : Txt P K mg) : Ok P w K mg base CX0 1 (He.ga K "_law_made") ["_law_parts", "_law_things", "_law_barred"] sp__law_made := by
  obtain ⟨fd, F⟩ := T.d__law_made
  refine ⟨fd, F.binds fun _ _ _ _ _ _ us hl => match us, hl with | [_, _, _], _ => rfl, F.ok sc__law_made (fun vs H Q E h => ?_) (fun cdv A outer s H vs Q E hr h => ⟨t__law_made K, ?_, pure__law_made vs H Q E h⟩)⟩
  · first | (obtain ⟨rfl, _⟩ := h; rfl) | (obtain ⟨_, rfl, _⟩ := h; rfl) | (obtain ⟨_, _, rfl, _⟩ := h; rfl) | (obtain ⟨_, _, _, rfl, _⟩ := h; rfl) | (obtain ⟨_, _, _, _, rfl, _⟩ := h; rfl) | (obtain ⟨_, _, _, _, _, rfl, _⟩ := h; rfl) | (obtain ⟨_, _, _, _, _, _, rfl, _⟩ := h; rfl) | (obtain ⟨_, _, _, _, _, _, _, rfl, _⟩ := h; rfl) | (obtain ⟨_, _, _, _, _, _, _, _, rfl, _⟩ := h; rfl) | (obtain ⟨_, _, _, _, _, _, _, _, _, rfl, _⟩ := h; rfl) | (obtain ⟨_, _, _, _, _, _, _, _, _, _, rfl, _⟩ := h; rfl) | (obtain ⟨_, _, _, _, _, _, _, _, _, _, _, rfl, _⟩ := h; rfl) | (obtain ⟨_, _, _, _, _, _, _, _, _, _, _, _, rfl, _⟩ := h; rfl) | (obtain ⟨_, _, _, _, _, _, _, _, _, _, _, _, _, rfl, _⟩ := h; rfl) | (obtain ⟨_, _, _, _, _, _, _, _, _, _, _, _, _, _, rfl, _⟩ := h; rfl) | (obtain ⟨_, _, _, _, _, _, _, _, _, _, _, _, _, _, _, rfl, _⟩ := h; rfl) | (obtain ⟨_, _, _, _, _, _, _, _, _, _, _, _, _, _, _, _, rfl, _⟩ := h; rfl)
  · exact (pss_cons (ps_set (i := 3) sc__law_made.nd rfl (Or.inr rfl) (pe_callTy u_lst (by rfl) T.n_list (by decide +kernel) (pa_cons (pv 1) pa_nil)))
      (pss_cons (ps_for PassesOwn.never rfl (pi_range1 rfl T.n_range (pa_cons (pe_ix u_ix (pv 0) pe_int (fun _ _ => rfl)) pa_nil)) (pg_name (i := 4) sc__law_made.nd rfl (Or.inl rfl))
      (pss_cons (ps_set (i := 5) sc__law_made.nd rfl (Or.inl rfl) (pe_callB u_len (by rfl) T.n_len (by decide +kernel) (pa_cons (pv 3) pa_nil)))
      (pss_cons (ps_for PassesOwn.never rfl (pi_range1 rfl T.n_range (pa_cons (pe_callB u_len (by rfl) T.n_len (by decide +kernel) (pa_cons (pe_ix u_ix (pv 0) pe_int (fun _ _ => rfl)) pa_nil)) pa_nil)) (pg_name (i := 6) sc__law_made.nd rfl (Or.inl rfl))
      (pss_cons (ps_asg (pe_ix u_ix (pe_ix u_ix (pv 0) pe_int (fun _ _ => rfl)) (pv 6) (fun _ _ => rfl)) (pg_tup rfl (pgs_cons (pg_name (i := 7) sc__law_made.nd rfl (Or.inl rfl)) (pgs_cons (pg_name (i := 8) sc__law_made.nd rfl (Or.inl rfl)) pgs_nil))))
      (pss_one (ps_if (PW.pt (pw_and (pt_cmpR u_notin (pv 6) (pv 2) rfl) (pw_and (pt_cmpR u_notin (pv 8) (pv 3) rfl) (pw_and1 (pt_val (pe_callB (u_all rfl) (by rfl) T.n_all (by decide +kernel) (pa_cons (pe_lc (own := [("_law_one", 9)]) (g := (gName 9)) (tt := tYes) rfl sc__law_made.nd (pi_tup (pv 7)) (blkOk_by (own := [("_law_one", 9)]) (N := N__law_made) (sc := defScope s__law_made) (by decide +kernel)) (fun _ _ _ _ _ => (pg_name (i := 9) sc__law_made.nd rfl (Or.inl rfl))) (fun _ _ _ _ _ => pts_nil) (fun _ _ _ _ _ => (pe_cmpR u_in (pv 9) (pv 3) rfl))) pa_nil))))))) (pss_one (ps_expr (pe_bm PySem.F.plainAttrs_list PySem.F.slot_list_append PySem.F.type_list_append mt_append (pv 3) (pa_cons (pv 8) pa_nil)))) pss_nil))))
      (pss_one (ps_if (pt_cmpR op_eq (pe_callB u_len (by rfl) T.n_len (by decide +kernel) (pa_cons (pv 3) pa_nil)) (pv 5) (nomark _)) (pss_one ps_break) pss_nil)))))
      (pss_one (ps_ret (pv 3)))))
theorem ok__law_bad (T : Txt P K mg) : Ok P w K mg base CX0 4 (He.ga K "_law_bad") ["_law_parts"] sp__law_bad := by
  obtain ⟨fd__law_is_lot, b__law_is_lot, G__law_is_lot⟩ := ok__law_is_lot (w := w) (base := base) T
  obtain ⟨fd__law_is_number, b__law_is_number, G__law_is_number⟩ := ok__law_is_number (w := w) (base := base) T
  obtain ⟨fd__law_is_recipe, b__law_is_recipe, G__law_is_recipe⟩ := ok__law_is_recipe (w := w) (base := base) T
  obtain ⟨fd__law_made, b__law_made, G__law_made⟩ := ok__law_made (w := w) (base := base) T
  obtain ⟨fd, F⟩ := T.d__law_bad
  refine ⟨fd, F.binds fun _ _ _ _ _ _ us hl => match us, hl with | [_], _ => rfl, F.ok sc__law_bad (fun vs H Q E h => ?_) (fun cdv A outer s H vs Q E hr h => ⟨t__law_bad K, ?_, pure__law_bad vs H Q E h⟩)⟩
  · first | (obtain ⟨rfl, _⟩ := h; rfl) | (obtain ⟨_, rfl, _⟩ := h; rfl) | (obtain ⟨_, _, rfl, _⟩ := h; rfl) | (obtain ⟨_, _, _, rfl, _⟩ := h; rfl) | (obtain ⟨_, _, _, _, rfl, _⟩ := h; rfl) | (obtain ⟨_, _, _, _, _, rfl, _⟩ := h; rfl) | (obtain ⟨_, _, _, _, _, _, rfl, _⟩ := h; rfl) | (obtain ⟨_, _, _, _, _, _, _, rfl, _⟩ := h; rfl) | (obtain ⟨_, _, _, _, _, _, _, _, rfl, _⟩ := h; rfl) | (obtain ⟨_, _, _, _, _, _, _, _, _, rfl, _⟩ := h; rfl) | (obtain ⟨_, _, _, _, _, _, _, _, _, _, rfl, _⟩ := h; rfl) | (obtain ⟨_, _, _, _, _, _, _, _, _, _, _, rfl, _⟩ := h; rfl) | (obtain ⟨_, _, _, _, _, _, _, _, _, _, _, _, rfl, _⟩ := h; rfl) | (obtain ⟨_, _, _, _, _, _, _, _, _, _, _, _, _, rfl, _⟩ := h; rfl) | (obtain ⟨_, _, _, _, _, _, _, _, _, _, _, _, _, _, rfl, _⟩ := h; rfl) | (obtain ⟨_, _, _, _, _, _, _, _, _, _, _, _, _, _, _, rfl, _⟩ := h; rfl) | (obtain ⟨_, _, _, _, _, _, _, _, _, _, _, _, _, _, _, _, rfl, _⟩ := h; rfl)
  · exact (pss_cons (ps_asg (pv 0) (pg_lst rfl (pgs_cons (pg_name (i := 1) sc__law_bad.nd rfl (Or.inr rfl)) (pgs_cons (pg_name (i := 2) sc__law_bad.nd rfl (Or.inr rfl)) (pgs_cons (pg_name (i := 3) sc__law_bad.nd rfl (Or.inl rfl)) (pgs_cons (pg_name (i := 4) sc__law_bad.nd rfl (Or.inl rfl)) pgs_nil))))))
      (pss_cons (ps_if (PW.pt (pw_or (pt_not (pt_val (pe_call G__law_is_number (hr.mono (by decide)) rfl T.g__law_is_number T.k__law_is_number b__law_is_number .nil pass0 (pa_cons (pv 1) (pa_cons pe_int pa_nil))))) (pw_or1 (pt_cmpR u_lt (pv 1) pe_int (nomark _))))) (pss_one (ps_ret pe_str)) pss_nil)
      (pss_cons (ps_if (pt_not (pt_val (pe_call G__law_is_lot (hr.mono (by decide)) rfl T.g__law_is_lot T.k__law_is_lot b__law_is_lot .nil pass0 (pa_cons (pv 2) (pa_cons (pv 1) pa_nil))))) (pss_one (ps_ret pe_str)) pss_nil)
      (pss_cons (ps_if (PW.pt (pw_or (pt_not (pt_val (pe_callB call_isD (by rfl) T.n_isinstance (by decide +kernel) (pa_cons (pv 3) (pa_cons (pe_bltn (v := .ty "tuple") rfl T.n_tuple (by decide +kernel) rfl) pa_nil))))) (pw_or1 (pt_cmpR u_gt (pe_callB u_len (by rfl) T.n_len (by decide +kernel) (pa_cons (pv 3) pa_nil)) pe_int (nomark _))))) (pss_one (ps_ret pe_str)) pss_nil)
      (pss_cons (ps_if (pt_not (pt_val (pe_callB (u_all rfl) (by rfl) T.n_all (by decide +kernel) (pa_cons (pe_lc (own := [("_law_recipe", 6)]) (g := (gName 6)) (tt := tYes) rfl sc__law_bad.nd (pi_tup (pv 3)) (blkOk_by (own := [("_law_recipe", 6)]) (N := N__law_bad) (sc := defScope s__law_bad) (by decide +kernel)) (fun _ _ _ _ _ => (pg_name (i := 6) sc__law_bad.nd rfl (Or.inl rfl))) (fun _ _ _ _ _ => pts_nil) (fun _ _ _ _ _ => (pe_call G__law_is_recipe (hr.mono (by decide)) rfl T.g__law_is_recipe T.k__law_is_recipe b__law_is_recipe .nil pass0 (pa_cons (pv 1) (pa_cons (pv 2) (pa_cons (pv 6) pa_nil)))))) pa_nil)))) (pss_one (ps_ret pe_str)) pss_nil)
      (pss_cons (ps_if (PW.pt (pw_or (pt_not (pt_val (pe_call G__law_is_lot (hr.mono (by decide)) rfl T.g__law_is_lot T.k__law_is_lot b__law_is_lot .nil pass0 (pa_cons (pv 4) (pa_cons (pv 1) pa_nil))))) (pw_or (pt_cmpR op_eq (pe_callB u_len (by rfl) T.n_len (by decide +kernel) (pa_cons (pv 4) pa_nil)) pe_int (nomark _)) (pw_or1 (pt_val (pe_callB (u_any rfl) (by rfl) T.n_any (by decide +kernel) (pa_cons (pe_lc (own := [("_law_goal", 7)]) (g := (gName 7)) (tt := tYes) rfl sc__law_bad.nd (pi_tup (pv 4)) (blkOk_by (own := [("_law_goal", 7)]) (N := N__law_bad) (sc := defScope s__law_bad) (by decide +kernel)) (fun _ _ _ _ _ => (pg_name (i := 7) sc__law_bad.nd rfl (Or.inl rfl))) (fun _ _ _ _ _ => pts_nil) (fun _ _ _ _ _ => (pe_cmpR u_in (pv 7) (pv 2) rfl))) pa_nil))))))) (pss_one (ps_ret pe_str)) pss_nil)
      (pss_cons (ps_set (i := 5) sc__law_bad.nd rfl (Or.inr rfl) (pe_call G__law_made (hr.mono (by decide)) rfl T.g__law_made T.k__law_made b__law_made .nil pass0 (pa_cons (pv 0) (pa_cons (pv 2) (pa_cons (pe_tup pa_nil) pa_nil)))))
      (pss_cons (ps_if (pt_not (pt_val (pe_callB (u_all rfl) (by rfl) T.n_all (by decide +kernel) (pa_cons (pe_lc (own := [("_law_goal", 7)]) (g := (gName 7)) (tt := tYes) rfl sc__law_bad.nd (pi_tup (pv 4)) (blkOk_by (own := [("_law_goal", 7)]) (N := N__law_bad) (sc := defScope s__law_bad) (by decide +kernel)) (fun _ _ _ _ _ => (pg_name (i := 7) sc__law_bad.nd rfl (Or.inl rfl))) (fun _ _ _ _ _ => pts_nil) (fun _ _ _ _ _ => (pe_cmpR u_in (pv 7) (pv 5) rfl))) pa_nil)))) (pss_one (ps_ret pe_str)) pss_nil)
      (pss_one (ps_ret pe_non))))))))))
theorem ok__law_built (T : Txt P K mg) : Ok P w K mg base CX0 9 (He.ga K "_law_built") ["_law_parts"] (sp__law_built (He.ga K "Cookery")) := by
  obtain ⟨fd_Cookery_init, b_Cookery_init, G_Cookery_init⟩ := ok_Cookery_init (w := w) (base := base) T
  obtain ⟨fd, F⟩ := T.d__law_built
  refine ⟨fd, F.binds fun _ _ _ _ _ _ us hl => match us, hl with | [_], _ => rfl, F.ok sc__law_built (fun vs H Q E h => ?_) (fun cdv A outer s H vs Q E hr h => ⟨t__law_built K (He.ga K "Cookery") (He.ga K "NoCookery") E0, ?_, pure__law_built T.x_NoCookery.te vs H Q E0 h⟩)⟩
  · first | (obtain ⟨rfl, _⟩ := h; rfl) | (obtain ⟨_, rfl, _⟩ := h; rfl) | (obtain ⟨_, _, rfl, _⟩ := h; rfl) | (obtain ⟨_, _, _, rfl, _⟩ := h; rfl) | (obtain ⟨_, _, _, _, rfl, _⟩ := h; rfl) | (obtain ⟨_, _, _, _, _, rfl, _⟩ := h; rfl) | (obtain ⟨_, _, _, _, _, _, rfl, _⟩ := h; rfl) | (obtain ⟨_, _, _, _, _, _, _, rfl, _⟩ := h; rfl) | (obtain ⟨_, _, _, _, _, _, _, _, rfl, _⟩ := h; rfl) | (obtain ⟨_, _, _, _, _, _, _, _, _, rfl, _⟩ := h; rfl) | (obtain ⟨_, _, _, _, _, _, _, _, _, _, rfl, _⟩ := h; rfl) | (obtain ⟨_, _, _, _, _, _, _, _, _, _, _, rfl, _⟩ := h; rfl) | (obtain ⟨_, _, _, _, _, _, _, _, _, _, _, _, rfl, _⟩ := h; rfl) | (obtain ⟨_, _, _, _, _, _, _, _, _, _, _, _, _, rfl, _⟩ := h; rfl) | (obtain ⟨_, _, _, _, _, _, _, _, _, _, _, _, _, _, rfl, _⟩ := h; rfl) | (obtain ⟨_, _, _, _, _, _, _, _, _, _, _, _, _, _, _, rfl, _⟩ := h; rfl) | (obtain ⟨_, _, _, _, _, _, _, _, _, _, _, _, _, _, _, _, rfl, _⟩ := h; rfl)
  · exact (pss_cons (ps_set (i := 1) sc__law_built.nd rfl (Or.inl rfl) pe_non)
      (pss_cons (ps_set (i := 2) sc__law_built.nd rfl (Or.inl rfl) pe_non)
      (pss_cons (ps_try_as (i := 3) (tb := fun W => tAsg (tMakeS (He.ga K "Cookery") (sp_Cookery_init (He.ga K "Cookery") (He.ga K "NoCookery")) (WE W) (tCons (tOp rIxF (tVar 0) (tC (.int 0))) (tCons (tOp rIxF (tVar 0) (tC (.int 1))) (tCons (tOp rIxF (tVar 0) (tC (.int 2))) (tCons (tOp rIxF (tVar 0) (tC (.int 3))) tNil))))) (gName 2)) (ts := fun a cls d => tAsg (tByPart (He.ga K "NoCookery") a cls d (tVar 3)) (gName 1)) (Wout := fun _ _ _ _ => False) rfl rfl sc__law_built.nd rfl rfl ⟨rfl, by decide, Or.inl T.x_NoCookery.gC⟩ takes0
          (fun W pn xe tk _ => pss_one (ps_set (i := 2) sc__law_built.nd rfl (Or.inl rfl) (by exact (pe_makeS T.m_Cookery G_Cookery_init (hr.mono (by decide)) rfl T.g_Cookery b_Cookery_init (fun σ => passAt tk σ) (pa_cons (pe_ix u_ix (pv 0) pe_int (fun _ _ => rfl)) (pa_cons (pe_ix u_ix (pv 0) pe_int (fun _ _ => rfl)) (pa_cons (pe_ix u_ix (pv 0) pe_int (fun _ _ => rfl)) (pa_cons (pe_ix u_ix (pv 0) pe_int (fun _ _ => rfl)) pa_nil))))))))
          (fun a oe cls d pn hz hf => pss_one (ps_set (i := 1) sc__law_built.nd rfl (Or.inl rfl) (by exact (pe_byPart T.x_NoCookery hz hf (pv 3))))))
      (pss_one (ps_ret (pe_tup (pa_cons (pv 1) (pa_cons (pv 2) pa_nil))))))))
theorem ok__law_draw (T : Txt P K mg) : Ok P w K mg base CX0 1 (He.ga K "_law_draw") ["_law_hand_here", "_law_many"] sp__law_draw := by
  obtain ⟨fd, F⟩ := T.d__law_draw
  refine ⟨fd, F.binds fun _ _ _ _ _ _ us hl => match us, hl with | [_, _], _ => rfl, F.ok sc__law_draw (fun vs H Q E h => ?_) (fun cdv A outer s H vs Q E hr h => ⟨t__law_draw , ?_, pure__law_draw vs H Q E h⟩)⟩
  · first | (obtain ⟨rfl, _⟩ := h; rfl) | (obtain ⟨_, rfl, _⟩ := h; rfl) | (obtain ⟨_, _, rfl, _⟩ := h; rfl) | (obtain ⟨_, _, _, rfl, _⟩ := h; rfl) | (obtain ⟨_, _, _, _, rfl, _⟩ := h; rfl) | (obtain ⟨_, _, _, _, _, rfl, _⟩ := h; rfl) | (obtain ⟨_, _, _, _, _, _, rfl, _⟩ := h; rfl) | (obtain ⟨_, _, _, _, _, _, _, rfl, _⟩ := h; rfl) | (obtain ⟨_, _, _, _, _, _, _, _, rfl, _⟩ := h; rfl) | (obtain ⟨_, _, _, _, _, _, _, _, _, rfl, _⟩ := h; rfl) | (obtain ⟨_, _, _, _, _, _, _, _, _, _, rfl, _⟩ := h; rfl) | (obtain ⟨_, _, _, _, _, _, _, _, _, _, _, rfl, _⟩ := h; rfl) | (obtain ⟨_, _, _, _, _, _, _, _, _, _, _, _, rfl, _⟩ := h; rfl) | (obtain ⟨_, _, _, _, _, _, _, _, _, _, _, _, _, rfl, _⟩ := h; rfl) | (obtain ⟨_, _, _, _, _, _, _, _, _, _, _, _, _, _, rfl, _⟩ := h; rfl) | (obtain ⟨_, _, _, _, _, _, _, _, _, _, _, _, _, _, _, rfl, _⟩ := h; rfl) | (obtain ⟨_, _, _, _, _, _, _, _, _, _, _, _, _, _, _, _, rfl, _⟩ := h; rfl)
  · exact (pss_cons (ps_if (PW.pt (pw_and (pt_cmpR op_eq (pe_ix u_ix (pv 0) pe_int (fun _ _ => rfl)) pe_int (nomark _)) (pw_and1 (pt_cmpR u_lt (pe_ix u_ix (pv 0) pe_int (fun _ _ => rfl)) (pe_callB u_len (by rfl) T.n_len (by decide +kernel) (pa_cons (pe_ix u_ix (pv 0) pe_int (fun _ _ => rfl)) pa_nil)) (nomark _))))) (pss_cons (ps_set (i := 2) sc__law_draw.nd rfl (Or.inl rfl) (pe_ix u_ix (pe_ix u_ix (pv 0) pe_int (fun _ _ => rfl)) (pe_ix u_ix (pv 0) pe_int (fun _ _ => rfl)) (fun _ _ => rfl)))
      (pss_cons (ps_asg (pe_op u_add (pe_ix u_ix (pv 0) pe_int (fun _ _ => rfl)) pe_int) (pg_sub (pv 0) pe_int set_list))
      (pss_cons (ps_asg (pe_op u_mod (pe_callTy u_int1 (by rfl) T.n_int (by decide +kernel) (pa_cons (pe_op u_add (pe_op u_add (pe_op u_mul (pe_ix u_ix (pv 0) pe_int (fun _ _ => rfl)) pe_int) (pv 2)) pe_int) pa_nil)) pe_int) (pg_sub (pv 0) pe_int set_list))
      (pss_one (ps_if (pt_cmpR u_ge (pv 2) (pe_op u_pow pe_int pe_int) (nomark _)) (pss_one (ps_asg (pv 2) (pg_sub (pv 0) pe_int set_list))) pss_nil))))) pss_nil)
      (pss_cons (ps_if (pt_cmpR u_gt (pe_ix u_ix (pv 0) pe_int (fun _ _ => rfl)) pe_int (nomark _)) (pss_cons (ps_set (i := 3) sc__law_draw.nd rfl (Or.inl rfl) (pe_op u_mod (pe_callTy u_int1 (by rfl) T.n_int (by decide +kernel) (pa_cons (pe_ix u_ix (pv 0) pe_int (fun _ _ => rfl)) pa_nil)) (pv 1)))
      (pss_cons (ps_asg (pe_op u_div (pe_ix u_ix (pv 0) pe_int (fun _ _ => rfl)) (pv 1)) (pg_sub (pv 0) pe_int set_list))
      (pss_one (ps_ret (pv 3))))) pss_nil)
      (pss_cons (ps_asg (pe_op u_add (pe_ix u_ix (pv 0) pe_int (fun _ _ => rfl)) pe_int) (pg_sub (pv 0) pe_int set_list))
      (pss_cons (ps_set (i := 4) sc__law_draw.nd rfl (Or.inl rfl) (pe_op u_mod (pe_callTy u_int1 (by rfl) T.n_int (by decide +kernel) (pa_cons (pe_op u_mul (pe_callTy u_int1 (by rfl) T.n_int (by decide +kernel) (pa_cons (pe_op u_add (pe_ix u_ix (pv 0) pe_int (fun _ _ => rfl)) (pe_op u_mul pe_int (pe_ix u_ix (pv 0) pe_int (fun _ _ => rfl)))) pa_nil)) pe_int) pa_nil)) pe_int))
      (pss_cons (ps_set (i := 4) sc__law_draw.nd rfl (Or.inl rfl) (pe_op u_mod (pe_callTy u_int1 (by rfl) T.n_int (by decide +kernel) (pa_cons (pe_op u_mul (pv 4) (pe_op u_add (pe_op u_div (pv 4) pe_int) pe_int)) pa_nil)) pe_int))
      (pss_cons (ps_set (i := 4) sc__law_draw.nd rfl (Or.inl rfl) (pe_op u_mod (pe_callTy u_int1 (by rfl) T.n_int (by decide +kernel) (pa_cons (pe_op u_mul (pv 4) (pe_op u_add (pe_op u_div (pv 4) pe_int) pe_int)) pa_nil)) pe_int))
      (pss_one (ps_ret (pe_op u_mod (pe_callTy u_int1 (by rfl) T.n_int (by decide +kernel) (pa_cons (pe_op u_div (pv 4) pe_int) pa_nil)) (pv 1))))))))))
theorem ok__law_hand (T : Txt P K mg) : Ok P w K mg base CX0 1 (He.ga K "_law_hand") ["_law_script"] (sp__law_hand K) := by
  obtain ⟨fd, F⟩ := T.d__law_hand
  refine ⟨fd, F.binds fun _ _ _ _ _ _ us hl => match us, hl with | [_], _ => rfl, F.ok sc__law_hand (fun vs H Q E h => ?_) (fun cdv A outer s H vs Q E hr h => ⟨t__law_hand K, ?_, pure__law_hand vs H Q E h⟩)⟩
  · first | (obtain ⟨rfl, _⟩ := h; rfl) | (obtain ⟨_, rfl, _⟩ := h; rfl) | (obtain ⟨_, _, rfl, _⟩ := h; rfl) | (obtain ⟨_, _, _, rfl, _⟩ := h; rfl) | (obtain ⟨_, _, _, _, rfl, _⟩ := h; rfl) | (obtain ⟨_, _, _, _, _, rfl, _⟩ := h; rfl) | (obtain ⟨_, _, _, _, _, _, rfl, _⟩ := h; rfl) | (obtain ⟨_, _, _, _, _, _, _, rfl, _⟩ := h; rfl) | (obtain ⟨_, _, _, _, _, _, _, _, rfl, _⟩ := h; rfl) | (obtain ⟨_, _, _, _, _, _, _, _, _, rfl, _⟩ := h; rfl) | (obtain ⟨_, _, _, _, _, _, _, _, _, _, rfl, _⟩ := h; rfl) | (obtain ⟨_, _, _, _, _, _, _, _, _, _, _, rfl, _⟩ := h; rfl) | (obtain ⟨_, _, _, _, _, _, _, _, _, _, _, _, rfl, _⟩ := h; rfl) | (obtain ⟨_, _, _, _, _, _, _, _, _, _, _, _, _, rfl, _⟩ := h; rfl) | (obtain ⟨_, _, _, _, _, _, _, _, _, _, _, _, _, _, rfl, _⟩ := h; rfl) | (obtain ⟨_, _, _, _, _, _, _, _, _, _, _, _, _, _, _, rfl, _⟩ := h; rfl) | (obtain ⟨_, _, _, _, _, _, _, _, _, _, _, _, _, _, _, _, rfl, _⟩ := h; rfl)
  · exact (pss_cons (ps_setLc (i := 1) (own := [("_law_cell", 2)]) (g := (gName 2)) (tt := tYes) rfl sc__law_hand.nd rfl rfl (sw_true rfl rfl rfl (by decide +kernel)) (pi_list (pe_slice sl_list (pv 0) po_none (po_some pe_int))) (blkOk_by (own := [("_law_cell", 2)]) (N := N__law_hand) (sc := defScope s__law_hand) (by decide +kernel)) (fun _ _ _ _ _ => (pg_name (i := 2) sc__law_hand.nd rfl (Or.inl rfl))) (fun _ _ _ _ _ => pts_nil) (fun _ _ _ _ _ => (pe_callB u_abs (by rfl) T.n_abs (by decide +kernel) (pa_cons (pe_callTy u_int1 (by rfl) T.n_int (by decide +kernel) (pa_cons (pv 2) pa_nil)) pa_nil))))
      (pss_one (ps_ret (pe_lst (pa_cons (pv 1) (pa_cons pe_int (pa_cons pe_int (pa_cons (pe_op u_add pe_int (pe_callB u_len (by rfl) T.n_len (by decide +kernel) (pa_cons (pv 1) pa_nil))) (pa_cons pe_int pa_nil)))))))))
theorem ok__law_has_ring (T : Txt P K mg) : Ok P w K mg base CX0 1 (He.ga K "_law_has_ring") ["_law_parts"] sp__law_has_ring := by
  obtain ⟨fd, F⟩ := T.d__law_has_ring
  refine ⟨fd, F.binds fun _ _ _ _ _ _ us hl => match us, hl with | [_], _ => rfl, F.ok sc__law_has_ring (fun vs H Q E h => ?_) (fun cdv A outer s H vs Q E hr h => ⟨t__law_has_ring K, ?_, pure__law_has_ring vs H Q E h⟩)⟩
  · first | (obtain ⟨rfl, _⟩ := h; rfl) | (obtain ⟨_, rfl, _⟩ := h; rfl) | (obtain ⟨_, _, rfl, _⟩ := h; rfl) | (obtain ⟨_, _, _, rfl, _⟩ := h; rfl) | (obtain ⟨_, _, _, _, rfl, _⟩ := h; rfl) | (obtain ⟨_, _, _, _, _, rfl, _⟩ := h; rfl) | (obtain ⟨_, _, _, _, _, _, rfl, _⟩ := h; rfl) | (obtain ⟨_, _, _, _, _, _, _, rfl, _⟩ := h; rfl) | (obtain ⟨_, _, _, _, _, _, _, _, rfl, _⟩ := h; rfl) | (obtain ⟨_, _, _, _, _, _, _, _, _, rfl, _⟩ := h; rfl) | (obtain ⟨_, _, _, _, _, _, _, _, _, _, rfl, _⟩ := h; rfl) | (obtain ⟨_, _, _, _, _, _, _, _, _, _, _, rfl, _⟩ := h; rfl) | (obtain ⟨_, _, _, _, _, _, _, _, _, _, _, _, rfl, _⟩ := h; rfl) | (obtain ⟨_, _, _, _, _, _, _, _, _, _, _, _, _, rfl, _⟩ := h; rfl) | (obtain ⟨_, _, _, _, _, _, _, _, _, _, _, _, _, _, rfl, _⟩ := h; rfl) | (obtain ⟨_, _, _, _, _, _, _, _, _, _, _, _, _, _, _, rfl, _⟩ := h; rfl) | (obtain ⟨_, _, _, _, _, _, _, _, _, _, _, _, _, _, _, _, rfl, _⟩ := h; rfl)
  · exact (pss_cons (ps_setLc (i := 1) (own := [("_law_thing", 5)]) (g := (gName 5)) (tt := tYes) rfl sc__law_has_ring.nd rfl rfl (sw_true rfl rfl rfl (by decide +kernel)) (pi_range1 rfl T.n_range (pa_cons (pe_ix u_ix (pv 0) pe_int (fun _ _ => rfl)) pa_nil)) (blkOk_by (own := [("_law_thing", 5)]) (N := N__law_has_ring) (sc := defScope s__law_has_ring) (by decide +kernel)) (fun _ _ _ _ _ => (pg_name (i := 5) sc__law_has_ring.nd rfl (Or.inr rfl))) (fun _ _ _ _ _ => pts_nil) (fun _ _ _ _ _ => (pe_lc (own := [("_law_lot", 6), ("_law_made_here", 7)]) (g := (gTup K 2 (gCons (gName 6) (gCons (gName 7) gNil)))) (tt := (tTest (tOp rEq (tVar 7) (tVar 5)))) rfl sc__law_has_ring.nd (pi_tup (pe_ix u_ix (pv 0) pe_int (fun _ _ => rfl))) (blkOk_by (own := [("_law_lot", 6), ("_law_made_here", 7)]) (by kernel_rfl)) (fun _ _ _ _ _ => (pg_tup rfl (pgs_cons (pg_name (i := 6) sc__law_has_ring.nd rfl (Or.inl rfl)) (pgs_cons (pg_name (i := 7) sc__law_has_ring.nd rfl (Or.inl rfl)) pgs_nil)))) (fun _ _ _ _ _ => (pts_one (pt_cmpR op_eq (pv 7) (pv 5) (nomark _)))) (fun _ _ _ _ _ => (pv 6)))))
      (pss_cons (ps_set (i := 2) sc__law_has_ring.nd rfl (Or.inr rfl) (pe_lst pa_nil))
      (pss_cons (ps_for PassesOwn.never rfl (pi_range1 rfl T.n_range (pa_cons (pe_ix u_ix (pv 0) pe_int (fun _ _ => rfl)) pa_nil)) (pg_name (i := 3) sc__law_has_ring.nd rfl (Or.inl rfl))
      (pss_cons (ps_set (i := 4) sc__law_has_ring.nd rfl (Or.inl rfl) (pe_callB u_len (by rfl) T.n_len (by decide +kernel) (pa_cons (pv 2) pa_nil)))
      (pss_cons (ps_for PassesOwn.never rfl (pi_range1 rfl T.n_range (pa_cons (pe_ix u_ix (pv 0) pe_int (fun _ _ => rfl)) pa_nil)) (pg_name (i := 5) sc__law_has_ring.nd rfl (Or.inl rfl))
      (pss_one (ps_if (PW.pt (pw_and (pt_cmpR u_notin (pv 5) (pv 2) rfl) (pw_and1 (pt_val (pe_callB (u_all rfl) (by rfl) T.n_all (by decide +kernel) (pa_cons (pe_lc (own := [("_law_lot", 6)]) (g := (gName 6)) (tt := tYes) rfl sc__law_has_ring.nd (pi_list (pe_ix u_ix (pv 1) (pv 5) (fun _ _ => rfl))) (blkOk_by (own := [("_law_lot", 6)]) (N := N__law_has_ring) (sc := defScope s__law_has_ring) (by decide +kernel)) (fun _ _ _ _ _ => (pg_name (i := 6) sc__law_has_ring.nd rfl (Or.inl rfl))) (fun _ _ _ _ _ => pts_nil) (fun _ _ _ _ _ => (pe_callB (u_all rfl) (by rfl) T.n_all (by decide +kernel) (pa_cons (pe_lc (own := [("_law_one", 8)]) (g := (gName 8)) (tt := tYes) rfl sc__law_has_ring.nd (pi_tup (pv 6)) (blkOk_by (own := [("_law_one", 8)]) (by kernel_rfl)) (fun _ _ _ _ _ => (pg_name (i := 8) sc__law_has_ring.nd rfl (Or.inl rfl))) (fun _ _ _ _ _ => pts_nil) (fun _ _ _ _ _ => (pe_cmpR u_in (pv 8) (pv 2) rfl))) pa_nil)))) pa_nil)))))) (pss_one (ps_expr (pe_bm PySem.F.plainAttrs_list PySem.F.slot_list_append PySem.F.type_list_append mt_append (pv 2) (pa_cons (pv 5) pa_nil)))) pss_nil)))
      (pss_one (ps_if (pt_cmpR op_eq (pe_callB u_len (by rfl) T.n_len (by decide +kernel) (pa_cons (pv 2) pa_nil)) (pv 4) (nomark _)) (pss_one ps_break) pss_nil)))))
      (pss_one (ps_ret (pe_cmpR u_lt (pe_callB u_len (by rfl) T.n_len (by decide +kernel) (pa_cons (pv 2) pa_nil)) (pe_ix u_ix (pv 0) pe_int (fun _ _ => rfl)) (nomark _)))))))
theorem ok__law_is_order (T : Txt P K mg) : Ok P w K mg base CX0 2 (He.ga K "_law_is_order") ["_law_parts", "_law_order"] sp__law_is_order := by
  obtain ⟨fd__law_has_ring, b__law_has_ring, G__law_has_ring⟩ := ok__law_has_ring (w := w) (base := base) T
  obtain ⟨fd__law_is_number, b__law_is_number, G__law_is_number⟩ := ok__law_is_number (w := w) (base := base) T
  obtain ⟨fd, F⟩ := T.d__law_is_order
  refine ⟨fd, F.binds fun _ _ _ _ _ _ us hl => match us, hl with | [_, _], _ => rfl, F.ok sc__law_is_order (fun vs H Q E h => ?_) (fun cdv A outer s H vs Q E hr h => ⟨t__law_is_order K, ?_, pure__law_is_order vs H Q E h⟩)⟩
  · first | (obtain ⟨rfl, _⟩ := h; rfl) | (obtain ⟨_, rfl, _⟩ := h; rfl) | (obtain ⟨_, _, rfl, _⟩ := h; rfl) | (obtain ⟨_, _, _, rfl, _⟩ := h; rfl) | (obtain ⟨_, _, _, _, rfl, _⟩ := h; rfl) | (obtain ⟨_, _, _, _, _, rfl, _⟩ := h; rfl) | (obtain ⟨_, _, _, _, _, _, rfl, _⟩ := h; rfl) | (obtain ⟨_, _, _, _, _, _, _, rfl, _⟩ := h; rfl) | (obtain ⟨_, _, _, _, _, _, _, _, rfl, _⟩ := h; rfl) | (obtain ⟨_, _, _, _, _, _, _, _, _, rfl, _⟩ := h; rfl) | (obtain ⟨_, _, _, _, _, _, _, _, _, _, rfl, _⟩ := h; rfl) | (obtain ⟨_, _, _, _, _, _, _, _, _, _, _, rfl, _⟩ := h; rfl) | (obtain ⟨_, _, _, _, _, _, _, _, _, _, _, _, rfl, _⟩ := h; rfl) | (obtain ⟨_, _, _, _, _, _, _, _, _, _, _, _, _, rfl, _⟩ := h; rfl) | (obtain ⟨_, _, _, _, _, _, _, _, _, _, _, _, _, _, rfl, _⟩ := h; rfl) | (obtain ⟨_, _, _, _, _, _, _, _, _, _, _, _, _, _, _, rfl, _⟩ := h; rfl) | (obtain ⟨_, _, _, _, _, _, _, _, _, _, _, _, _, _, _, _, rfl, _⟩ := h; rfl)
  · exact (pss_cons (ps_if (PW.pt (pw_or (pt_cmpR u_isN (pv 1) pe_non (nomark _)) (pw_or1 (pt_val (pe_call G__law_has_ring (hr.mono (by decide)) rfl T.g__law_has_ring T.k__law_has_ring b__law_has_ring .nil pass0 (pa_cons (pv 0) pa_nil)))))) (pss_one (ps_ret (pe_and (pe_cmpR u_isN (pv 1) pe_non (nomark _)) (pe_one (pe_call G__law_has_ring (hr.mono (by decide)) rfl T.g__law_has_ring T.k__law_has_ring b__law_has_ring .nil pass0 (pa_cons (pv 0) pa_nil)))))) pss_nil)
      (pss_cons (ps_if (PW.pt (pw_or (pt_not (pt_val (pe_callB u_isX (by rfl) T.n_isinstance (by decide +kernel) (pa_cons (pv 1) (pa_cons (pe_bltn (v := .ty "tuple") rfl T.n_tuple (by decide +kernel) rfl) pa_nil))))) (pw_or1 (pt_not (pt_val (pe_callB (u_all rfl) (by rfl) T.n_all (by decide +kernel) (pa_cons (pe_lc (own := [("_law_one", 3)]) (g := (gName 3)) (tt := tYes) rfl sc__law_is_order.nd (pi_tup (pv 1)) (blkOk_by (own := [("_law_one", 3)]) (N := N__law_is_order) (sc := defScope s__law_is_order) (by decide +kernel)) (fun _ _ _ _ _ => (pg_name (i := 3) sc__law_is_order.nd rfl (Or.inl rfl))) (fun _ _ _ _ _ => pts_nil) (fun _ _ _ _ _ => (pe_call G__law_is_number (hr.mono (by decide)) rfl T.g__law_is_number T.k__law_is_number b__law_is_number .nil pass0 (pa_cons (pv 3) (pa_cons (pe_ix u_ix (pv 0) pe_int (fun _ _ => rfl)) pa_nil))))) pa_nil))))))) (pss_one (ps_ret pe_bl)) pss_nil)
      (pss_cons (ps_if (pt_cmpR (op_neP hr.units) (pe_callB u_sortedTQ (by rfl) T.n_sorted (by decide +kernel) (pa_cons (pv 1) pa_nil)) (pe_listRg rfl rfl T.n_list (prg_1 rfl T.n_range (pe_ix u_ix (pv 0) pe_int (fun _ _ => rfl)))) (nomark _)) (pss_one (ps_ret pe_bl)) pss_nil)
      (pss_cons (ps_set (i := 2) sc__law_is_order.nd rfl (Or.inr rfl) (pe_lc (own := [("_law_thing", 4)]) (g := (gName 4)) (tt := tYes) rfl sc__law_is_order.nd (pi_range1 rfl T.n_range (pa_cons (pe_ix u_ix (pv 0) pe_int (fun _ _ => rfl)) pa_nil)) (blkOk_by (own := [("_law_thing", 4)]) (N := N__law_is_order) (sc := defScope s__law_is_order) (by decide +kernel)) (fun _ _ _ _ _ => (pg_name (i := 4) sc__law_is_order.nd rfl (Or.inl rfl))) (fun _ _ _ _ _ => pts_nil) (fun _ _ _ _ _ => (pe_bmZ PySem.F.slot_tuple_index PySem.F.type_tuple_index mt_indexZ (pv 1) (pa_cons (pv 4) pa_nil)))))
      (pss_one (ps_ret (pe_callB (u_all rfl) (by rfl) T.n_all (by decide +kernel) (pa_cons (pe_lc (own := [("_law_lot", 5), ("_law_thing", 4)]) (g := (gTup K 2 (gCons (gName 5) (gCons (gName 4) gNil)))) (tt := tYes) rfl sc__law_is_order.nd (pi_tup (pe_ix u_ix (pv 0) pe_int (fun _ _ => rfl))) (blkOk_by (own := [("_law_lot", 5), ("_law_thing", 4)]) (N := N__law_is_order) (sc := defScope s__law_is_order) (by decide +kernel)) (fun _ _ _ _ _ => (pg_tup rfl (pgs_cons (pg_name (i := 5) sc__law_is_order.nd rfl (Or.inl rfl)) (pgs_cons (pg_name (i := 4) sc__law_is_order.nd rfl (Or.inr rfl)) pgs_nil)))) (fun _ _ _ _ _ => pts_nil) (fun _ _ _ _ _ => (pe_callB (u_all rfl) (by rfl) T.n_all (by decide +kernel) (pa_cons (pe_lc (own := [("_law_one", 3)]) (g := (gName 3)) (tt := tYes) rfl sc__law_is_order.nd (pi_tup (pv 5)) (blkOk_by (own := [("_law_one", 3)]) (by kernel_rfl)) (fun _ _ _ _ _ => (pg_name (i := 3) sc__law_is_order.nd rfl (Or.inl rfl))) (fun _ _ _ _ _ => pts_nil) (fun _ _ _ _ _ => (pe_cmpR u_lt (pe_ix u_ix (pv 2) (pv 3) (fun _ _ => rfl)) (pe_ix u_ix (pv 2) (pv 4) (fun _ _ => rfl)) (nomark _)))) pa_nil)))) pa_nil))))))))
theorem ok_Cookery_given (T : Txt P K mg) : Ok P w K mg base CX0 1 (He.ma K (He.ga K "Cookery") "given") ["self"] (sp_fieldC (He.ga K "Cookery") "kept_given") := by
  obtain ⟨fd, F⟩ := T.d_Cookery_given
  refine ⟨fd, F.binds fun _ _ _ _ _ _ us hl => match us, hl with | [_], _ => rfl, F.ok sc_Cookery_given (fun vs H Q E h => ?_) (fun cdv A outer s H vs Q E hr h => ⟨t_Cookery_given K, ?_, pure_fieldC T.cook.cl T.cook.n1 vs H Q E h⟩)⟩
  · first | (obtain ⟨rfl, _⟩ := h; rfl) | (obtain ⟨_, rfl, _⟩ := h; rfl) | (obtain ⟨_, _, rfl, _⟩ := h; rfl) | (obtain ⟨_, _, _, rfl, _⟩ := h; rfl) | (obtain ⟨_, _, _, _, rfl, _⟩ := h; rfl) | (obtain ⟨_, _, _, _, _, rfl, _⟩ := h; rfl) | (obtain ⟨_, _, _, _, _, _, rfl, _⟩ := h; rfl) | (obtain ⟨_, _, _, _, _, _, _, rfl, _⟩ := h; rfl) | (obtain ⟨_, _, _, _, _, _, _, _, rfl, _⟩ := h; rfl) | (obtain ⟨_, _, _, _, _, _, _, _, _, rfl, _⟩ := h; rfl) | (obtain ⟨_, _, _, _, _, _, _, _, _, _, rfl, _⟩ := h; rfl) | (obtain ⟨_, _, _, _, _, _, _, _, _, _, _, rfl, _⟩ := h; rfl) | (obtain ⟨_, _, _, _, _, _, _, _, _, _, _, _, rfl, _⟩ := h; rfl) | (obtain ⟨_, _, _, _, _, _, _, _, _, _, _, _, _, rfl, _⟩ := h; rfl) | (obtain ⟨_, _, _, _, _, _, _, _, _, _, _, _, _, _, rfl, _⟩ := h; rfl) | (obtain ⟨_, _, _, _, _, _, _, _, _, _, _, _, _, _, _, rfl, _⟩ := h; rfl) | (obtain ⟨_, _, _, _, _, _, _, _, _, _, _, _, _, _, _, _, rfl, _⟩ := h; rfl)
  · exact (pss_one (ps_ret (pe_fld (pv 0) rfl)))
theorem ok_Cookery_goals (T : Txt P K mg) : Ok P w K mg base CX0 1 (He.ma K (He.ga K "Cookery") "goals") ["self"] (sp_fieldC (He.ga K "Cookery") "kept_goals") := by
  obtain ⟨fd, F⟩ := T.d_Cookery_goals
  refine ⟨fd, F.binds fun _ _ _ _ _ _ us hl => match us, hl with | [_], _ => rfl, F.ok sc_Cookery_goals (fun vs H Q E h => ?_) (fun cdv A outer s H vs Q E hr h => ⟨t_Cookery_goals K, ?_, pure_fieldC T.cook.cl T.cook.n3 vs H Q E h⟩)⟩
  · first | (obtain ⟨rfl, _⟩ := h; rfl) | (obtain ⟨_, rfl, _⟩ := h; rfl) | (obtain ⟨_, _, rfl, _⟩ := h; rfl) | (obtain ⟨_, _, _, rfl, _⟩ := h; rfl) | (obtain ⟨_, _, _, _, rfl, _⟩ := h; rfl) | (obtain ⟨_, _, _, _, _, rfl, _⟩ := h; rfl) | (obtain ⟨_, _, _, _, _, _, rfl, _⟩ := h; rfl) | (obtain ⟨_, _, _, _, _, _, _, rfl, _⟩ := h; rfl) | (obtain ⟨_, _, _, _, _, _, _, _, rfl, _⟩ := h; rfl) | (obtain ⟨_, _, _, _, _, _, _, _, _, rfl, _⟩ := h; rfl) | (obtain ⟨_, _, _, _, _, _, _, _, _, _, rfl, _⟩ := h; rfl) | (obtain ⟨_, _, _, _, _, _, _, _, _, _, _, rfl, _⟩ := h; rfl) | (obtain ⟨_, _, _, _, _, _, _, _, _, _, _, _, rfl, _⟩ := h; rfl) | (obtain ⟨_, _, _, _, _, _, _, _, _, _, _, _, _, rfl, _⟩ := h; rfl) | (obtain ⟨_, _, _, _, _, _, _, _, _, _, _, _, _, _, rfl, _⟩ := h; rfl) | (obtain ⟨_, _, _, _, _, _, _, _, _, _, _, _, _, _, _, rfl, _⟩ := h; rfl) | (obtain ⟨_, _, _, _, _, _, _, _, _, _, _, _, _, _, _, _, rfl, _⟩ := h; rfl)
  · exact (pss_one (ps_ret (pe_fld (pv 0) rfl)))
theorem ok_Cookery_many (T : Txt P K mg) : Ok P w K mg base CX0 1 (He.ma K (He.ga K "Cookery") "many") ["self"] (sp_fieldC (He.ga K "Cookery") "kept_many") := by
  obtain ⟨fd, F⟩ := T.d_Cookery_many
  refine ⟨fd, F.binds fun _ _ _ _ _ _ us hl => match us, hl with | [_], _ => rfl, F.ok sc_Cookery_many (fun vs H Q E h => ?_) (fun cdv A outer s H vs Q E hr h => ⟨t_Cookery_many K, ?_, pure_fieldC T.cook.cl T.cook.n0 vs H Q E h⟩)⟩
  · first | (obtain ⟨rfl, _⟩ := h; rfl) | (obtain ⟨_, rfl, _⟩ := h; rfl) | (obtain ⟨_, _, rfl, _⟩ := h; rfl) | (obtain ⟨_, _, _, rfl, _⟩ := h; rfl) | (obtain ⟨_, _, _, _, rfl, _⟩ := h; rfl) | (obtain ⟨_, _, _, _, _, rfl, _⟩ := h; rfl) | (obtain ⟨_, _, _, _, _, _, rfl, _⟩ := h; rfl) | (obtain ⟨_, _, _, _, _, _, _, rfl, _⟩ := h; rfl) | (obtain ⟨_, _, _, _, _, _, _, _, rfl, _⟩ := h; rfl) | (obtain ⟨_, _, _, _, _, _, _, _, _, rfl, _⟩ := h; rfl) | (obtain ⟨_, _, _, _, _, _, _, _, _, _, rfl, _⟩ := h; rfl) | (obtain ⟨_, _, _, _, _, _, _, _, _, _, _, rfl, _⟩ := h; rfl) | (obtain ⟨_, _, _, _, _, _, _, _, _, _, _, _, rfl, _⟩ := h; rfl) | (obtain ⟨_, _, _, _, _, _, _, _, _, _, _, _, _, rfl, _⟩ := h; rfl) | (obtain ⟨_, _, _, _, _, _, _, _, _, _, _, _, _, _, rfl, _⟩ := h; rfl) | (obtain ⟨_, _, _, _, _, _, _, _, _, _, _, _, _, _, _, rfl, _⟩ := h; rfl) | (obtain ⟨_, _, _, _, _, _, _, _, _, _, _, _, _, _, _, _, rfl, _⟩ := h; rfl)
  · exact (pss_one (ps_ret (pe_fld (pv 0) rfl)))
theorem ok_Cookery_recipes (T : Txt P K mg) : Ok P w K mg base CX0 1 (He.ma K (He.ga K "Cookery") "recipes") ["self"] (sp_fieldC (He.ga K "Cookery") "kept_recipes") := by
  obtain ⟨fd, F⟩ := T.d_Cookery_recipes
  refine ⟨fd, F.binds fun _ _ _ _ _ _ us hl => match us, hl with | [_], _ => rfl, F.ok sc_Cookery_recipes (fun vs H Q E h => ?_) (fun cdv A outer s H vs Q E hr h => ⟨t_Cookery_recipes K, ?_, pure_fieldC T.cook.cl T.cook.n2 vs H Q E h⟩)⟩
  · first | (obtain ⟨rfl, _⟩ := h; rfl) | (obtain ⟨_, rfl, _⟩ := h; rfl) | (obtain ⟨_, _, rfl, _⟩ := h; rfl) | (obtain ⟨_, _, _, rfl, _⟩ := h; rfl) | (obtain ⟨_, _, _, _, rfl, _⟩ := h; rfl) | (obtain ⟨_, _, _, _, _, rfl, _⟩ := h; rfl) | (obtain ⟨_, _, _, _, _, _, rfl, _⟩ := h; rfl) | (obtain ⟨_, _, _, _, _, _, _, rfl, _⟩ := h; rfl) | (obtain ⟨_, _, _, _, _, _, _, _, rfl, _⟩ := h; rfl) | (obtain ⟨_, _, _, _, _, _, _, _, _, rfl, _⟩ := h; rfl) | (obtain ⟨_, _, _, _, _, _, _, _, _, _, rfl, _⟩ := h; rfl) | (obtain ⟨_, _, _, _, _, _, _, _, _, _, _, rfl, _⟩ := h; rfl) | (obtain ⟨_, _, _, _, _, _, _, _, _, _, _, _, rfl, _⟩ := h; rfl) | (obtain ⟨_, _, _, _, _, _, _, _, _, _, _, _, _, rfl, _⟩ := h; rfl) | (obtain ⟨_, _, _, _, _, _, _, _, _, _, _, _, _, _, rfl, _⟩ := h; rfl) | (obtain ⟨_, _, _, _, _, _, _, _, _, _, _, _, _, _, _, rfl, _⟩ := h; rfl) | (obtain ⟨_, _, _, _, _, _, _, _, _, _, _, _, _, _, _, _, rfl, _⟩ := h; rfl)
  · exact (pss_one (ps_ret (pe_fld (pv 0) rfl)))
theorem ok__law_keeps (T : Txt P K mg) : Ok P w K mg base CX0 4 (He.ga K "_law_keeps") ["_law_book", "_law_parts"] (sp__law_keeps (He.ga K "Cookery")) := by
  obtain ⟨fd_Cookery_given, b_Cookery_given, G_Cookery_given⟩ := ok_Cookery_given (w := w) (base := base) T
  obtain ⟨fd_Cookery_goals, b_Cookery_goals, G_Cookery_goals⟩ := ok_Cookery_goals (w := w) (base := base) T
  obtain ⟨fd_Cookery_many, b_Cookery_many, G_Cookery_many⟩ := ok_Cookery_many (w := w) (base := base) T
  obtain ⟨fd_Cookery_recipes, b_Cookery_recipes, G_Cookery_recipes⟩ := ok_Cookery_recipes (w := w) (base := base) T
  obtain ⟨fd__law_is_lot, b__law_is_lot, G__law_is_lot⟩ := ok__law_is_lot (w := w) (base := base) T
  obtain ⟨fd__law_is_number, b__law_is_number, G__law_is_number⟩ := ok__law_is_number (w := w) (base := base) T
  obtain ⟨fd__law_is_recipe, b__law_is_recipe, G__law_is_recipe⟩ := ok__law_is_recipe (w := w) (base := base) T
  obtain ⟨fd, F⟩ := T.d__law_keeps
  refine ⟨fd, F.binds fun _ _ _ _ _ _ us hl => match us, hl with | [_, _], _ => rfl, F.ok sc__law_keeps (fun vs H Q E h => ?_) (fun cdv A outer s H vs Q E hr h => ⟨t__law_keeps K (He.ga K "Cookery"), ?_, pure__law_keeps vs H Q E h⟩)⟩
  · first | (obtain ⟨rfl, _⟩ := h; rfl) | (obtain ⟨_, rfl, _⟩ := h; rfl) | (obtain ⟨_, _, rfl, _⟩ := h; rfl) | (obtain ⟨_, _, _, rfl, _⟩ := h; rfl) | (obtain ⟨_, _, _, _, rfl, _⟩ := h; rfl) | (obtain ⟨_, _, _, _, _, rfl, _⟩ := h; rfl) | (obtain ⟨_, _, _, _, _, _, rfl, _⟩ := h; rfl) | (obtain ⟨_, _, _, _, _, _, _, rfl, _⟩ := h; rfl) | (obtain ⟨_, _, _, _, _, _, _, _, rfl, _⟩ := h; rfl) | (obtain ⟨_, _, _, _, _, _, _, _, _, rfl, _⟩ := h; rfl) | (obtain ⟨_, _, _, _, _, _, _, _, _, _, rfl, _⟩ := h; rfl) | (obtain ⟨_, _, _, _, _, _, _, _, _, _, _, rfl, _⟩ := h; rfl) | (obtain ⟨_, _, _, _, _, _, _, _, _, _, _, _, rfl, _⟩ := h; rfl) | (obtain ⟨_, _, _, _, _, _, _, _, _, _, _, _, _, rfl, _⟩ := h; rfl) | (obtain ⟨_, _, _, _, _, _, _, _, _, _, _, _, _, _, rfl, _⟩ := h; rfl) | (obtain ⟨_, _, _, _, _, _, _, _, _, _, _, _, _, _, _, rfl, _⟩ := h; rfl) | (obtain ⟨_, _, _, _, _, _, _, _, _, _, _, _, _, _, _, _, rfl, _⟩ := h; rfl)
  · exact (pss_cons (ps_if (pt_cmpR (op_neP hr.units) (pe_lst (pa_cons (pe_meth0 (pv 0) T.cl_Cookery T.me_Cookery_many G_Cookery_many (hr.mono (by decide)) b_Cookery_many .nil pass0) (pa_cons (pe_meth0 (pv 0) T.cl_Cookery T.me_Cookery_given G_Cookery_given (hr.mono (by decide)) b_Cookery_given .nil pass0) (pa_cons (pe_meth0 (pv 0) T.cl_Cookery T.me_Cookery_recipes G_Cookery_recipes (hr.mono (by decide)) b_Cookery_recipes .nil pass0) (pa_cons (pe_meth0 (pv 0) T.cl_Cookery T.me_Cookery_goals G_Cookery_goals (hr.mono (by decide)) b_Cookery_goals .nil pass0) pa_nil))))) (pe_callTy u_lst (by rfl) T.n_list (by decide +kernel) (pa_cons (pv 1) pa_nil)) (nomark _)) (pss_one (ps_ret pe_bl)) pss_nil)
      (pss_cons (ps_if (PW.pt (pw_or (pt_not (pt_val (pe_call G__law_is_number (hr.mono (by decide)) rfl T.g__law_is_number T.k__law_is_number b__law_is_number .nil pass0 (pa_cons (pe_meth0 (pv 0) T.cl_Cookery T.me_Cookery_many G_Cookery_many (hr.mono (by decide)) b_Cookery_many .nil pass0) (pa_cons pe_int pa_nil))))) (pw_or (pt_not (pt_val (pe_call G__law_is_lot (hr.mono (by decide)) rfl T.g__law_is_lot T.k__law_is_lot b__law_is_lot .nil pass0 (pa_cons (pe_meth0 (pv 0) T.cl_Cookery T.me_Cookery_given G_Cookery_given (hr.mono (by decide)) b_Cookery_given .nil pass0) (pa_cons pe_int pa_nil))))) (pw_or1 (pt_not (pt_val (pe_call G__law_is_lot (hr.mono (by decide)) rfl T.g__law_is_lot T.k__law_is_lot b__law_is_lot .nil pass0 (pa_cons (pe_meth0 (pv 0) T.cl_Cookery T.me_Cookery_goals G_Cookery_goals (hr.mono (by decide)) b_Cookery_goals .nil pass0) (pa_cons pe_int pa_nil))))))))) (pss_one (ps_ret pe_bl)) pss_nil)
      (pss_one (ps_ret (pe_callB (u_all rfl) (by rfl) T.n_all (by decide +kernel) (pa_cons (pe_lc (own := [("_law_recipe", 2)]) (g := (gName 2)) (tt := tYes) rfl sc__law_keeps.nd (pi_tup (pe_meth0 (pv 0) T.cl_Cookery T.me_Cookery_recipes G_Cookery_recipes (hr.mono (by decide)) b_Cookery_recipes .nil pass0)) (blkOk_by (own := [("_law_recipe", 2)]) (N := N__law_keeps) (sc := defScope s__law_keeps) (by decide +kernel)) (fun _ _ _ _ _ => (pg_name (i := 2) sc__law_keeps.nd rfl (Or.inl rfl))) (fun _ _ _ _ _ => pts_nil) (fun _ _ _ _ _ => (pe_call G__law_is_recipe (hr.mono (by decide)) rfl T.g__law_is_recipe T.k__law_is_recipe b__law_is_recipe .nil pass0 (pa_cons pe_int (pa_cons (pe_tup pa_nil) (pa_cons (pv 2) pa_nil)))))) pa_nil))))))
theorem ok__law_needs (T : Txt P K mg) : Ok P w K mg base CX0 2 (He.ga K "_law_needs") ["_law_hand_here", "_law_things"] sp__law_needs := by
  obtain ⟨fd__law_draw, b__law_draw, G__law_draw⟩ := ok__law_draw (w := w) (base := base) T
  obtain ⟨fd, F⟩ := T.d__law_needs
  refine ⟨fd, F.binds fun _ _ _ _ _ _ us hl => match us, hl with | [_, _], _ => rfl, F.ok sc__law_needs (fun vs H Q E h => ?_) (fun cdv A outer s H vs Q E hr h => ⟨t__law_needs K, ?_, pure__law_needs vs H Q E h⟩)⟩
  · first | (obtain ⟨rfl, _⟩ := h; rfl) | (obtain ⟨_, rfl, _⟩ := h; rfl) | (obtain ⟨_, _, rfl, _⟩ := h; rfl) | (obtain ⟨_, _, _, rfl, _⟩ := h; rfl) | (obtain ⟨_, _, _, _, rfl, _⟩ := h; rfl) | (obtain ⟨_, _, _, _, _, rfl, _⟩ := h; rfl) | (obtain ⟨_, _, _, _, _, _, rfl, _⟩ := h; rfl) | (obtain ⟨_, _, _, _, _, _, _, rfl, _⟩ := h; rfl) | (obtain ⟨_, _, _, _, _, _, _, _, rfl, _⟩ := h; rfl) | (obtain ⟨_, _, _, _, _, _, _, _, _, rfl, _⟩ := h; rfl) | (obtain ⟨_, _, _, _, _, _, _, _, _, _, rfl, _⟩ := h; rfl) | (obtain ⟨_, _, _, _, _, _, _, _, _, _, _, rfl, _⟩ := h; rfl) | (obtain ⟨_, _, _, _, _, _, _, _, _, _, _, _, rfl, _⟩ := h; rfl) | (obtain ⟨_, _, _, _, _, _, _, _, _, _, _, _, _, rfl, _⟩ := h; rfl) | (obtain ⟨_, _, _, _, _, _, _, _, _, _, _, _, _, _, rfl, _⟩ := h; rfl) | (obtain ⟨_, _, _, _, _, _, _, _, _, _, _, _, _, _, _, rfl, _⟩ := h; rfl) | (obtain ⟨_, _, _, _, _, _, _, _, _, _, _, _, _, _, _, _, rfl, _⟩ := h; rfl)
  · exact (pss_cons (ps_set (i := 2) sc__law_needs.nd rfl (Or.inl rfl) (pe_lst pa_nil))
      (pss_cons (ps_for PassesOwn.never rfl (pi_range1 rfl T.n_range (pa_cons (pe_ix u_ix (pe_lst (pa_cons pe_int (pa_cons pe_int (pa_cons pe_int (pa_cons pe_int (pa_cons pe_int (pa_cons pe_int pa_nil))))))) (pe_call G__law_draw (hr.mono (by decide)) rfl T.g__law_draw T.k__law_draw b__law_draw .nil pass0 (pa_cons (pv 0) (pa_cons pe_int pa_nil))) (fun _ _ => rfl)) pa_nil)) (pg_name (i := 3) sc__law_needs.nd rfl (Or.inl rfl))
      (pss_cons (ps_set (i := 4) sc__law_needs.nd rfl (Or.inl rfl) (pe_ix u_ix (pv 1) (pe_call G__law_draw (hr.mono (by decide)) rfl T.g__law_draw T.k__law_draw b__law_draw .nil pass0 (pa_cons (pv 0) (pa_cons (pe_callB u_len (by rfl) T.n_len (by decide +kernel) (pa_cons (pv 1) pa_nil)) pa_nil))) (fun _ _ => rfl)))
      (pss_one (ps_if (pt_cmpR u_notin (pv 4) (pv 2) rfl) (pss_one (ps_expr (pe_bm PySem.F.plainAttrs_list PySem.F.slot_list_append PySem.F.type_list_append mt_append (pv 2) (pa_cons (pv 4) pa_nil)))) pss_nil))))
      (pss_one (ps_ret (pv 2)))))
theorem ok__law_shuffled (T : Txt P K mg) : Ok P w K mg base CX0 2 (He.ga K "_law_shuffled") ["_law_hand_here", "_law_things"] sp__law_shuffled := by
  obtain ⟨fd__law_draw, b__law_draw, G__law_draw⟩ := ok__law_draw (w := w) (base := base) T
  obtain ⟨fd, F⟩ := T.d__law_shuffled
  refine ⟨fd, F.binds fun _ _ _ _ _ _ us hl => match us, hl with | [_, _], _ => rfl, F.ok sc__law_shuffled (fun vs H Q E h => ?_) (fun cdv A outer s H vs Q E hr h => ⟨t__law_shuffled K, ?_, pure__law_shuffled vs H Q E h⟩)⟩
  · first | (obtain ⟨rfl, _⟩ := h; rfl) | (obtain ⟨_, rfl, _⟩ := h; rfl) | (obtain ⟨_, _, rfl, _⟩ := h; rfl) | (obtain ⟨_, _, _, rfl, _⟩ := h; rfl) | (obtain ⟨_, _, _, _, rfl, _⟩ := h; rfl) | (obtain ⟨_, _, _, _, _, rfl, _⟩ := h; rfl) | (obtain ⟨_, _, _, _, _, _, rfl, _⟩ := h; rfl) | (obtain ⟨_, _, _, _, _, _, _, rfl, _⟩ := h; rfl) | (obtain ⟨_, _, _, _, _, _, _, _, rfl, _⟩ := h; rfl) | (obtain ⟨_, _, _, _, _, _, _, _, _, rfl, _⟩ := h; rfl) | (obtain ⟨_, _, _, _, _, _, _, _, _, _, rfl, _⟩ := h; rfl) | (obtain ⟨_, _, _, _, _, _, _, _, _, _, _, rfl, _⟩ := h; rfl) | (obtain ⟨_, _, _, _, _, _, _, _, _, _, _, _, rfl, _⟩ := h; rfl) | (obtain ⟨_, _, _, _, _, _, _, _, _, _, _, _, _, rfl, _⟩ := h; rfl) | (obtain ⟨_, _, _, _, _, _, _, _, _, _, _, _, _, _, rfl, _⟩ := h; rfl) | (obtain ⟨_, _, _, _, _, _, _, _, _, _, _, _, _, _, _, rfl, _⟩ := h; rfl) | (obtain ⟨_, _, _, _, _, _, _, _, _, _, _, _, _, _, _, _, rfl, _⟩ := h; rfl)
  · exact (pss_cons (ps_set (i := 2) sc__law_shuffled.nd rfl (Or.inl rfl) (pe_callTy u_lst (by rfl) T.n_list (by decide +kernel) (pa_cons (pv 1) pa_nil)))
      (pss_cons (ps_set (i := 3) sc__law_shuffled.nd rfl (Or.inl rfl) (pe_lst pa_nil))
      (pss_cons (ps_while PassesOwn.never (pt_cmpR u_gt (pe_callB u_len (by rfl) T.n_len (by decide +kernel) (pa_cons (pv 2) pa_nil)) pe_int (nomark _))
      (pss_one (ps_expr (pe_bm PySem.F.plainAttrs_list PySem.F.slot_list_append PySem.F.type_list_append mt_append (pv 3) (pa_cons (pe_bm PySem.F.plainAttrs_list PySem.F.slot_list_pop PySem.F.type_list_pop mt_popAt (pv 2) (pa_cons (pe_call G__law_draw (hr.mono (by decide)) rfl T.g__law_draw T.k__law_draw b__law_draw .nil pass0 (pa_cons (pv 0) (pa_cons (pe_callB u_len (by rfl) T.n_len (by decide +kernel) (pa_cons (pv 2) pa_nil)) pa_nil))) pa_nil)) pa_nil)))))
      (pss_one (ps_ret (pv 3))))))
theorem ok__law_renamed (T : Txt P K mg) : Ok P w K mg base CX0 3 (He.ga K "_law_renamed") ["_law_hand_here", "_law_many", "_law_first", "_law_rows", "_law_goals"] sp__law_renamed := by
  obtain ⟨fd__law_shuffled, b__law_shuffled, G__law_shuffled⟩ := ok__law_shuffled (w := w) (base := base) T
  obtain ⟨fd, F⟩ := T.d__law_renamed
  refine ⟨fd, F.binds fun _ _ _ _ _ _ us hl => match us, hl with | [_, _, _, _, _], _ => rfl, F.ok sc__law_renamed (fun vs H Q E h => ?_) (fun cdv A outer s H vs Q E hr h => ⟨t__law_renamed K, ?_, pure__law_renamed vs H Q E h⟩)⟩
  · first | (obtain ⟨rfl, _⟩ := h; rfl) | (obtain ⟨_, rfl, _⟩ := h; rfl) | (obtain ⟨_, _, rfl, _⟩ := h; rfl) | (obtain ⟨_, _, _, rfl, _⟩ := h; rfl) | (obtain ⟨_, _, _, _, rfl, _⟩ := h; rfl) | (obtain ⟨_, _, _, _, _, rfl, _⟩ := h; rfl) | (obtain ⟨_, _, _, _, _, _, rfl, _⟩ := h; rfl) | (obtain ⟨_, _, _, _, _, _, _, rfl, _⟩ := h; rfl) | (obtain ⟨_, _, _, _, _, _, _, _, rfl, _⟩ := h; rfl) | (obtain ⟨_, _, _, _, _, _, _, _, _, rfl, _⟩ := h; rfl) | (obtain ⟨_, _, _, _, _, _, _, _, _, _, rfl, _⟩ := h; rfl) | (obtain ⟨_, _, _, _, _, _, _, _, _, _, _, rfl, _⟩ := h; rfl) | (obtain ⟨_, _, _, _, _, _, _, _, _, _, _, _, rfl, _⟩ := h; rfl) | (obtain ⟨_, _, _, _, _, _, _, _, _, _, _, _, _, rfl, _⟩ := h; rfl) | (obtain ⟨_, _, _, _, _, _, _, _, _, _, _, _, _, _, rfl, _⟩ := h; rfl) | (obtain ⟨_, _, _, _, _, _, _, _, _, _, _, _, _, _, _, rfl, _⟩ := h; rfl) | (obtain ⟨_, _, _, _, _, _, _, _, _, _, _, _, _, _, _, _, rfl, _⟩ := h; rfl)
  · exact (pss_cons (ps_set (i := 5) sc__law_renamed.nd rfl (Or.inr rfl) (pe_call G__law_shuffled (hr.mono (by decide)) rfl T.g__law_shuffled T.k__law_shuffled b__law_shuffled .nil pass0 (pa_cons (pv 0) (pa_cons (pe_listRg rfl rfl T.n_list (prg_1 rfl T.n_range (pv 1))) pa_nil))))
      (pss_cons (ps_setLc (i := 6) (own := [("_law_lot", 7), ("_law_thing", 8)]) (g := (gTup K 2 (gCons (gName 7) (gCons (gName 8) gNil)))) (tt := tYes) rfl sc__law_renamed.nd rfl rfl (sw_true rfl rfl rfl (by decide +kernel)) (pi_list (pv 3)) (blkOk_by (own := [("_law_lot", 7), ("_law_thing", 8)]) (N := N__law_renamed) (sc := defScope s__law_renamed) (by decide +kernel)) (fun _ _ _ _ _ => (pg_tup rfl (pgs_cons (pg_name (i := 7) sc__law_renamed.nd rfl (Or.inl rfl)) (pgs_cons (pg_name (i := 8) sc__law_renamed.nd rfl (Or.inl rfl)) pgs_nil)))) (fun _ _ _ _ _ => pts_nil) (fun _ _ _ _ _ => (pe_tup (pa_cons (pe_callTy u_tup (by rfl) T.n_tuple (by decide +kernel) (pa_cons (pe_callB u_sorted (by rfl) T.n_sorted (by decide +kernel) (pa_cons (pe_lc (own := [("_law_one", 9)]) (g := (gName 9)) (tt := tYes) rfl sc__law_renamed.nd (pi_list (pv 7)) (blkOk_by (own := [("_law_one", 9)]) (by kernel_rfl)) (fun _ _ _ _ _ => (pg_name (i := 9) sc__law_renamed.nd rfl (Or.inl rfl))) (fun _ _ _ _ _ => pts_nil) (fun _ _ _ _ _ => (pe_ix u_ix (pv 5) (pv 9) (fun _ _ => rfl)))) pa_nil)) pa_nil)) (pa_cons (pe_ix u_ix (pv 5) (pv 8) (fun _ _ => rfl)) pa_nil)))))
      (pss_one (ps_ret (pe_tup (pa_cons (pv 1) (pa_cons (pe_callTy u_tup (by rfl) T.n_tuple (by decide +kernel) (pa_cons (pe_callB u_sorted (by rfl) T.n_sorted (by decide +kernel) (pa_cons (pe_slice u_slL (pv 5) po_none (po_some (pv 2))) pa_nil)) pa_nil)) (pa_cons (pe_callTy u_tup (by rfl) T.n_tuple (by decide +kernel) (pa_cons (pv 6) pa_nil)) (pa_cons (pe_callTy u_tup (by rfl) T.n_tuple (by decide +kernel) (pa_cons (pe_callB u_sorted (by rfl) T.n_sorted (by decide +kernel) (pa_cons (pe_lc (own := [("_law_goal", 10)]) (g := (gName 10)) (tt := tYes) rfl sc__law_renamed.nd (pi_list (pv 4)) (blkOk_by (own := [("_law_goal", 10)]) (N := N__law_renamed) (sc := defScope s__law_renamed) (by decide +kernel)) (fun _ _ _ _ _ => (pg_name (i := 10) sc__law_renamed.nd rfl (Or.inl rfl))) (fun _ _ _ _ _ => pts_nil) (fun _ _ _ _ _ => (pe_ix u_ix (pv 5) (pv 10) (fun _ _ => rfl)))) pa_nil)) pa_nil)) pa_nil)))))))))
theorem ok__law_kitchen (T : Txt P K mg) : Ok P w K mg base CX0 4 (He.ga K "_law_kitchen") ["_law_hand_here", "_law_things", "_law_recipes"] sp__law_kitchen := by
  obtain ⟨fd__law_draw, b__law_draw, G__law_draw⟩ := ok__law_draw (w := w) (base := base) T
  obtain ⟨fd__law_needs, b__law_needs, G__law_needs⟩ := ok__law_needs (w := w) (base := base) T
  obtain ⟨fd__law_renamed, b__law_renamed, G__law_renamed⟩ := ok__law_renamed (w := w) (base := base) T
  obtain ⟨fd__law_shuffled, b__law_shuffled, G__law_shuffled⟩ := ok__law_shuffled (w := w) (base := base) T
  obtain ⟨fd, F⟩ := T.d__law_kitchen
  refine ⟨fd, F.binds fun _ _ _ _ _ _ us hl => match us, hl with | [_, _, _], _ => rfl, F.ok sc__law_kitchen (fun vs H Q E h => ?_) (fun cdv A outer s H vs Q E hr h => ⟨t__law_kitchen K, ?_, pure__law_kitchen vs H Q E h⟩)⟩
  · first | (obtain ⟨rfl, _⟩ := h; rfl) | (obtain ⟨_, rfl, _⟩ := h; rfl) | (obtain ⟨_, _, rfl, _⟩ := h; rfl) | (obtain ⟨_, _, _, rfl, _⟩ := h; rfl) | (obtain ⟨_, _, _, _, rfl, _⟩ := h; rfl) | (obtain ⟨_, _, _, _, _, rfl, _⟩ := h; rfl) | (obtain ⟨_, _, _, _, _, _, rfl, _⟩ := h; rfl) | (obtain ⟨_, _, _, _, _, _, _, rfl, _⟩ := h; rfl) | (obtain ⟨_, _, _, _, _, _, _, _, rfl, _⟩ := h; rfl) | (obtain ⟨_, _, _, _, _, _, _, _, _, rfl, _⟩ := h; rfl) | (obtain ⟨_, _, _, _, _, _, _, _, _, _, rfl, _⟩ := h; rfl) | (obtain ⟨_, _, _, _, _, _, _, _, _, _, _, rfl, _⟩ := h; rfl) | (obtain ⟨_, _, _, _, _, _, _, _, _, _, _, _, rfl, _⟩ := h; rfl) | (obtain ⟨_, _, _, _, _, _, _, _, _, _, _, _, _, rfl, _⟩ := h; rfl) | (obtain ⟨_, _, _, _, _, _, _, _, _, _, _, _, _, _, rfl, _⟩ := h; rfl) | (obtain ⟨_, _, _, _, _, _, _, _, _, _, _, _, _, _, _, rfl, _⟩ := h; rfl) | (obtain ⟨_, _, _, _, _, _, _, _, _, _, _, _, _, _, _, _, rfl, _⟩ := h; rfl)
  · exact (pss_cons (ps_set (i := 3) sc__law_kitchen.nd rfl (Or.inl rfl) (pe_op u_add pe_int (pe_call G__law_draw (hr.mono (by decide)) rfl T.g__law_draw T.k__law_draw b__law_draw .nil pass0 (pa_cons (pv 0) (pa_cons (pe_op u_sub (pv 1) pe_int) pa_nil)))))
      (pss_cons (ps_set (i := 4) sc__law_kitchen.nd rfl (Or.inl rfl) (pe_op u_add pe_int (pe_callB (u_min2 rfl) (by rfl) T.n_min (by decide +kernel) (pa_cons (pe_op u_sub (pv 3) pe_int) (pa_cons (pe_ix u_ix (pe_lst (pa_cons pe_int (pa_cons pe_int (pa_cons pe_int (pa_cons pe_int (pa_cons pe_int (pa_cons pe_int pa_nil))))))) (pe_call G__law_draw (hr.mono (by decide)) rfl T.g__law_draw T.k__law_draw b__law_draw .nil pass0 (pa_cons (pv 0) (pa_cons pe_int pa_nil))) (fun _ _ => rfl)) pa_nil)))))
      (pss_cons (ps_set (i := 5) sc__law_kitchen.nd rfl (Or.inl rfl) (pe_lst (pa_cons (pe_op u_sub (pv 3) pe_int) pa_nil)))
      (pss_cons (ps_if (PW.pt (pw_and (pt_cmpR u_gt (pv 3) (pe_op u_add (pv 4) pe_int) (nomark _)) (pw_and1 (pt_cmpR op_eq (pe_call G__law_draw (hr.mono (by decide)) rfl T.g__law_draw T.k__law_draw b__law_draw .nil pass0 (pa_cons (pv 0) (pa_cons pe_int pa_nil))) pe_int (nomark _))))) (pss_one (ps_set (i := 5) sc__law_kitchen.nd rfl (Or.inl rfl) (pe_listRg rfl rfl T.n_list (prg_2 rfl T.n_range (pe_op u_sub (pe_op u_sub (pv 3) pe_int) (pe_call G__law_draw (hr.mono (by decide)) rfl T.g__law_draw T.k__law_draw b__law_draw .nil pass0 (pa_cons (pv 0) (pa_cons (pe_callB (u_min2 rfl) (by rfl) T.n_min (by decide +kernel) (pa_cons pe_int (pa_cons (pe_op u_sub (pe_op u_sub (pv 3) (pv 4)) pe_int) pa_nil))) pa_nil)))) (pv 3))))) pss_nil)
      (pss_cons (ps_set (i := 6) sc__law_kitchen.nd rfl (Or.inl rfl) (pe_cmpR op_eq (pe_call G__law_draw (hr.mono (by decide)) rfl T.g__law_draw T.k__law_draw b__law_draw .nil pass0 (pa_cons (pv 0) (pa_cons pe_int pa_nil))) pe_int (nomark _)))
      (pss_cons (ps_set (i := 7) sc__law_kitchen.nd rfl (Or.inr rfl) (pe_cmpR op_eq (pe_call G__law_draw (hr.mono (by decide)) rfl T.g__law_draw T.k__law_draw b__law_draw .nil pass0 (pa_cons (pv 0) (pa_cons pe_int pa_nil))) pe_int (nomark _)))
      (pss_cons (ps_set (i := 8) sc__law_kitchen.nd rfl (Or.inl rfl) (pe_lst pa_nil))
      (pss_cons (ps_for PassesOwn.never rfl (pi_range2 (by rfl) T.n_range (pa_cons (pv 4) (pa_cons (pv 3) pa_nil))) (pg_name (i := 9) sc__law_kitchen.nd rfl (Or.inr rfl))
      (pss_one (ps_if (PW.pt (pw_or (pt_cmpR u_in (pv 9) (pv 5) rfl) (pw_or (pt_val (pv 6)) (pw_or1 (pt_cmpR u_gt (pe_call G__law_draw (hr.mono (by decide)) rfl T.g__law_draw T.k__law_draw b__law_draw .nil pass0 (pa_cons (pv 0) (pa_cons pe_int pa_nil))) pe_int (nomark _)))))) (pss_cons (ps_set (i := 10) sc__law_kitchen.nd rfl (Or.inl rfl) (pe_op op_cat (pe_listRg rfl rfl T.n_list (prg_1 rfl T.n_range (pv 4))) (pe_lc (own := [("_law_lot", 13), ("_law_one", 14)]) (g := (gTup K 2 (gCons (gName 13) (gCons (gName 14) gNil)))) (tt := tYes) rfl sc__law_kitchen.nd (pi_list (pv 8)) (blkOk_by (own := [("_law_lot", 13), ("_law_one", 14)]) (N := N__law_kitchen) (sc := defScope s__law_kitchen) (by decide +kernel)) (fun _ _ _ _ _ => (pg_tup rfl (pgs_cons (pg_name (i := 13) sc__law_kitchen.nd rfl (Or.inl rfl)) (pgs_cons (pg_name (i := 14) sc__law_kitchen.nd rfl (Or.inl rfl)) pgs_nil)))) (fun _ _ _ _ _ => pts_nil) (fun _ _ _ _ _ => (pv 14)))))
      (pss_cons (ps_if (pt_val (pv 6)) (pss_one (ps_set (i := 10) sc__law_kitchen.nd rfl (Or.inl rfl) (pe_slice u_slL (pv 10) (po_some (pe_un u_neg pe_int)) po_none))) pss_nil)
      (pss_one (ps_expr (pe_bm PySem.F.plainAttrs_list PySem.F.slot_list_append PySem.F.type_list_append mt_append (pv 8) (pa_cons (pe_tup (pa_cons (pe_call G__law_needs (hr.mono (by decide)) rfl T.g__law_needs T.k__law_needs b__law_needs .nil pass0 (pa_cons (pv 0) (pa_cons (pv 10) pa_nil))) (pa_cons (pv 9) pa_nil))) pa_nil)))))) pss_nil)))
      (pss_cons (ps_for PassesOwn.never rfl (pi_range1 rfl T.n_range (pa_cons (pe_call G__law_draw (hr.mono (by decide)) rfl T.g__law_draw T.k__law_draw b__law_draw .nil pass0 (pa_cons (pv 0) (pa_cons (pe_op u_add (pe_callB (u_max2 rfl) (by rfl) T.n_max (by decide +kernel) (pa_cons pe_int (pa_cons (pe_op u_sub (pv 2) (pe_callB u_len (by rfl) T.n_len (by decide +kernel) (pa_cons (pv 8) pa_nil))) pa_nil))) pe_int) pa_nil))) pa_nil)) (pg_name (i := 11) sc__law_kitchen.nd rfl (Or.inl rfl))
      (pss_cons (ps_set (i := 9) sc__law_kitchen.nd rfl (Or.inr rfl) (pe_op u_add (pv 4) (pe_call G__law_draw (hr.mono (by decide)) rfl T.g__law_draw T.k__law_draw b__law_draw .nil pass0 (pa_cons (pv 0) (pa_cons (pe_op u_sub (pv 3) (pv 4)) pa_nil)))))
      (pss_cons (ps_setLc (i := 10) (own := [("_law_one", 14)]) (g := (gName 14)) (tt := (tOr (tTest (tOp rLtI (tVar 14) (tVar 9))) (tAnd (tB (tVar 7)) (tTest (tOp rNe (tVar 14) (tVar 9)))))) rfl sc__law_kitchen.nd rfl rfl (sw_true rfl rfl rfl (by decide +kernel)) (pi_range1 rfl T.n_range (pa_cons (pv 3) pa_nil)) (blkOk_by (own := [("_law_one", 14)]) (N := N__law_kitchen) (sc := defScope s__law_kitchen) (by decide +kernel)) (fun _ _ _ _ _ => (pg_name (i := 14) sc__law_kitchen.nd rfl (Or.inl rfl))) (fun _ _ _ _ _ => (pts_one (PW.pt (pw_or (pt_cmpR u_lt (pv 14) (pv 9) (nomark _)) (pw_or1 (PW.pt (pw_and (pt_val (pv 7)) (pw_and1 (pt_cmpR op_ne (pv 14) (pv 9) (nomark _)))))))))) (fun _ _ _ _ _ => (pv 14)))
      (pss_cons (ps_set (i := 12) sc__law_kitchen.nd rfl (Or.inl rfl) (pe_tup (pa_cons (pe_call G__law_needs (hr.mono (by decide)) rfl T.g__law_needs T.k__law_needs b__law_needs .nil pass0 (pa_cons (pv 0) (pa_cons (pv 10) pa_nil))) (pa_cons (pv 9) pa_nil))))
      (pss_cons (ps_if (pt_cmpR op_eq (pe_call G__law_draw (hr.mono (by decide)) rfl T.g__law_draw T.k__law_draw b__law_draw .nil pass0 (pa_cons (pv 0) (pa_cons pe_int pa_nil))) pe_int (nomark _)) (pss_one (ps_set (i := 12) sc__law_kitchen.nd rfl (Or.inl rfl) (pe_ix u_ix (pv 8) (pe_call G__law_draw (hr.mono (by decide)) rfl T.g__law_draw T.k__law_draw b__law_draw .nil pass0 (pa_cons (pv 0) (pa_cons (pe_callB u_len (by rfl) T.n_len (by decide +kernel) (pa_cons (pv 8) pa_nil)) pa_nil))) (fun _ _ => rfl)))) pss_nil)
      (pss_one (ps_expr (pe_bm PySem.F.plainAttrs_list PySem.F.slot_list_append PySem.F.type_list_append mt_append (pv 8) (pa_cons (pv 12) pa_nil)))))))))
      (pss_one (ps_ret (pe_call G__law_renamed (hr.mono (by decide)) rfl T.g__law_renamed T.k__law_renamed b__law_renamed .nil pass0 (pa_cons (pv 0) (pa_cons (pv 3) (pa_cons (pv 4) (pa_cons (pe_call G__law_shuffled (hr.mono (by decide)) rfl T.g__law_shuffled T.k__law_shuffled b__law_shuffled .nil pass0 (pa_cons (pv 0) (pa_cons (pv 8) pa_nil))) (pa_cons (pv 5) pa_nil)))))))))))))))))
theorem ok__law_odd_recipe (T : Txt P K mg) : Ok P w K mg base CX0 2 (He.ga K "_law_odd_recipe") ["_law_hand_here", "_law_parts", "_law_recipe"] sp__law_odd_recipe := by
  obtain ⟨fd__law_draw, b__law_draw, G__law_draw⟩ := ok__law_draw (w := w) (base := base) T
  obtain ⟨fd, F⟩ := T.d__law_odd_recipe
  refine ⟨fd, F.binds fun _ _ _ _ _ _ us hl => match us, hl with | [_, _, _], _ => rfl, F.ok sc__law_odd_recipe (fun vs H Q E h => ?_) (fun cdv A outer s H vs Q E hr h => ⟨t__law_odd_recipe K, ?_, pure__law_odd_recipe vs H Q E h⟩)⟩
  · first | (obtain ⟨rfl, _⟩ := h; rfl) | (obtain ⟨_, rfl, _⟩ := h; rfl) | (obtain ⟨_, _, rfl, _⟩ := h; rfl) | (obtain ⟨_, _, _, rfl, _⟩ := h; rfl) | (obtain ⟨_, _, _, _, rfl, _⟩ := h; rfl) | (obtain ⟨_, _, _, _, _, rfl, _⟩ := h; rfl) | (obtain ⟨_, _, _, _, _, _, rfl, _⟩ := h; rfl) | (obtain ⟨_, _, _, _, _, _, _, rfl, _⟩ := h; rfl) | (obtain ⟨_, _, _, _, _, _, _, _, rfl, _⟩ := h; rfl) | (obtain ⟨_, _, _, _, _, _, _, _, _, rfl, _⟩ := h; rfl) | (obtain ⟨_, _, _, _, _, _, _, _, _, _, rfl, _⟩ := h; rfl) | (obtain ⟨_, _, _, _, _, _, _, _, _, _, _, rfl, _⟩ := h; rfl) | (obtain ⟨_, _, _, _, _, _, _, _, _, _, _, _, rfl, _⟩ := h; rfl) | (obtain ⟨_, _, _, _, _, _, _, _, _, _, _, _, _, rfl, _⟩ := h; rfl) | (obtain ⟨_, _, _, _, _, _, _, _, _, _, _, _, _, _, rfl, _⟩ := h; rfl) | (obtain ⟨_, _, _, _, _, _, _, _, _, _, _, _, _, _, _, rfl, _⟩ := h; rfl) | (obtain ⟨_, _, _, _, _, _, _, _, _, _, _, _, _, _, _, _, rfl, _⟩ := h; rfl)
  · exact (pss_cons (ps_par (by rfl) sc__law_odd_recipe.nd rfl rfl (by decide) rfl rfl (pa_cons (pe_ix u_ix (pv 1) pe_int (fun _ _ => rfl)) (pa_cons (pe_ix u_ix (pv 1) pe_int (fun _ _ => rfl)) pa_nil)) (by rfl))
      (pss_cons (ps_asg (pv 2) (pg_tup rfl (pgs_cons (pg_name (i := 5) sc__law_odd_recipe.nd rfl (Or.inl rfl)) (pgs_cons (pg_name (i := 6) sc__law_odd_recipe.nd rfl (Or.inr rfl)) pgs_nil))))
      (pss_cons (ps_set (i := 7) sc__law_odd_recipe.nd rfl (Or.inl rfl) (pe_call G__law_draw (hr.mono (by decide)) rfl T.g__law_draw T.k__law_draw b__law_draw .nil pass0 (pa_cons (pv 0) (pa_cons (pv 3) pa_nil))))
      (pss_cons (ps_set (i := 8) sc__law_odd_recipe.nd rfl (Or.inl rfl) (pe_lst (pa_cons (pe_tup (pa_cons (pv 5) (pa_cons (pv 7) pa_nil))) (pa_cons (pe_tup (pa_cons (pv 5) (pa_cons (pe_ix u_ix (pv 4) (pe_un u_neg pe_int) (fun _ _ => rfl)) pa_nil))) (pa_cons (pe_tup (pa_cons (pv 5) (pa_cons (pv 3) pa_nil))) (pa_cons (pe_tup (pa_cons (pv 5) (pa_cons (pe_un u_neg pe_int) pa_nil))) (pa_cons (pe_tup (pa_cons (pv 5) (pa_cons pe_non pa_nil))) (pa_cons (pe_tup (pa_cons (pv 5) (pa_cons pe_bl pa_nil))) (pa_cons (pe_tup (pa_cons (pv 5) (pa_cons (pe_callTy u_strI (by rfl) T.n_str (by decide +kernel) (pa_cons (pv 6) pa_nil)) pa_nil))) (pa_cons (pe_tup (pa_cons (pv 5) pa_nil)) pa_nil))))))))))
      (pss_cons (ps_set (i := 8) sc__law_odd_recipe.nd rfl (Or.inl rfl) (pe_op op_cat (pv 8) (pe_lst (pa_cons (pe_tup (pa_cons (pe_tup pa_nil) (pa_cons (pv 6) pa_nil))) (pa_cons (pe_tup (pa_cons (pe_tup (pa_cons (pv 7) pa_nil)) (pa_cons (pv 6) pa_nil))) (pa_cons (pe_tup (pa_cons (pe_callTy u_lst (by rfl) T.n_list (by decide +kernel) (pa_cons (pv 5) pa_nil)) (pa_cons (pv 6) pa_nil))) (pa_cons (pe_tup (pa_cons (pe_op u_catT (pv 5) (pe_tup (pa_cons (pv 3) pa_nil))) (pa_cons (pv 6) pa_nil))) (pa_cons (pe_tup (pa_cons (pe_op u_catT (pe_tup (pa_cons (pe_un u_neg pe_int) pa_nil)) (pv 5)) (pa_cons (pv 6) pa_nil))) pa_nil))))))))
      (pss_cons (ps_set (i := 8) sc__law_odd_recipe.nd rfl (Or.inl rfl) (pe_op op_cat (pv 8) (pe_lst (pa_cons (pe_tup (pa_cons (pe_callTy u_tup (by rfl) T.n_tuple (by decide +kernel) (pa_cons (pe_callB u_sorted (by rfl) T.n_sorted (by decide +kernel) (pa_cons (pe_op op_cat (pe_lc (own := [("_law_k", 9)]) (g := (gName 9)) (tt := (tTest (tOp rNe (tVar 9) (tVar 6)))) rfl sc__law_odd_recipe.nd (pi_tup (pv 5)) (blkOk_by (own := [("_law_k", 9)]) (N := N__law_odd_recipe) (sc := defScope s__law_odd_recipe) (by decide +kernel)) (fun _ _ _ _ _ => (pg_name (i := 9) sc__law_odd_recipe.nd rfl (Or.inl rfl))) (fun _ _ _ _ _ => (pts_one (pt_cmpR op_ne (pv 9) (pv 6) (nomark _)))) (fun _ _ _ _ _ => (pv 9))) (pe_lst (pa_cons (pv 6) pa_nil))) pa_nil)) pa_nil)) (pa_cons (pv 6) pa_nil))) (pa_cons (pe_tup (pa_cons (pe_op u_catT (pe_slice u_slT (pv 5) po_none (po_some pe_int)) (pv 5)) (pa_cons (pv 6) pa_nil))) pa_nil)))))
      (pss_cons (ps_set (i := 8) sc__law_odd_recipe.nd rfl (Or.inl rfl) (pe_op op_cat (pv 8) (pe_lst (pa_cons (pe_tup (pa_cons (pe_revT (pv 5)) (pa_cons (pv 6) pa_nil))) (pa_cons (pe_tup (pa_cons (pe_tup (pa_cons pe_bl pa_nil)) (pa_cons (pv 6) pa_nil))) (pa_cons (pe_tup (pa_cons (pv 5) (pa_cons (pv 6) (pa_cons (pv 6) pa_nil)))) (pa_cons (pe_lst (pa_cons (pv 5) (pa_cons (pv 6) pa_nil))) (pa_cons (pv 5) (pa_cons pe_non (pa_cons (pe_tup (pa_cons (pv 6) (pa_cons (pv 5) pa_nil))) pa_nil))))))))))
      (pss_one (ps_ret (pe_ix u_ix (pv 8) (pe_call G__law_draw (hr.mono (by decide)) rfl T.g__law_draw T.k__law_draw b__law_draw .nil pass0 (pa_cons (pv 0) (pa_cons (pe_callB u_len (by rfl) T.n_len (by decide +kernel) (pa_cons (pv 8) pa_nil)) pa_nil))) (fun _ _ => rfl)))))))))))
theorem ok__law_odd_recipes (T : Txt P K mg) : Ok P w K mg base CX0 3 (He.ga K "_law_odd_recipes") ["_law_hand_here", "_law_parts"] sp__law_odd_recipes := by
  obtain ⟨fd__law_draw, b__law_draw, G__law_draw⟩ := ok__law_draw (w := w) (base := base) T
  obtain ⟨fd__law_odd_recipe, b__law_odd_recipe, G__law_odd_recipe⟩ := ok__law_odd_recipe (w := w) (base := base) T
  obtain ⟨fd, F⟩ := T.d__law_odd_recipes
  refine ⟨fd, F.binds fun _ _ _ _ _ _ us hl => match us, hl with | [_, _], _ => rfl, F.ok sc__law_odd_recipes (fun vs H Q E h => ?_) (fun cdv A outer s H vs Q E hr h => ⟨t__law_odd_recipes , ?_, pure__law_odd_recipes vs H Q E h⟩)⟩
  · first | (obtain ⟨rfl, _⟩ := h; rfl) | (obtain ⟨_, rfl, _⟩ := h; rfl) | (obtain ⟨_, _, rfl, _⟩ := h; rfl) | (obtain ⟨_, _, _, rfl, _⟩ := h; rfl) | (obtain ⟨_, _, _, _, rfl, _⟩ := h; rfl) | (obtain ⟨_, _, _, _, _, rfl, _⟩ := h; rfl) | (obtain ⟨_, _, _, _, _, _, rfl, _⟩ := h; rfl) | (obtain ⟨_, _, _, _, _, _, _, rfl, _⟩ := h; rfl) | (obtain ⟨_, _, _, _, _, _, _, _, rfl, _⟩ := h; rfl) | (obtain ⟨_, _, _, _, _, _, _, _, _, rfl, _⟩ := h; rfl) | (obtain ⟨_, _, _, _, _, _, _, _, _, _, rfl, _⟩ := h; rfl) | (obtain ⟨_, _, _, _, _, _, _, _, _, _, _, rfl, _⟩ := h; rfl) | (obtain ⟨_, _, _, _, _, _, _, _, _, _, _, _, rfl, _⟩ := h; rfl) | (obtain ⟨_, _, _, _, _, _, _, _, _, _, _, _, _, rfl, _⟩ := h; rfl) | (obtain ⟨_, _, _, _, _, _, _, _, _, _, _, _, _, _, rfl, _⟩ := h; rfl) | (obtain ⟨_, _, _, _, _, _, _, _, _, _, _, _, _, _, _, rfl, _⟩ := h; rfl) | (obtain ⟨_, _, _, _, _, _, _, _, _, _, _, _, _, _, _, _, rfl, _⟩ := h; rfl)
  · exact (pss_cons (ps_set (i := 2) sc__law_odd_recipes.nd rfl (Or.inl rfl) (pe_ix u_ix (pv 1) pe_int (fun _ _ => rfl)))
      (pss_cons (ps_set (i := 3) sc__law_odd_recipes.nd rfl (Or.inl rfl) (pe_call G__law_draw (hr.mono (by decide)) rfl T.g__law_draw T.k__law_draw b__law_draw .nil pass0 (pa_cons (pv 0) (pa_cons (pe_callB u_len (by rfl) T.n_len (by decide +kernel) (pa_cons (pv 2) pa_nil)) pa_nil))))
      (pss_cons (ps_set (i := 4) sc__law_odd_recipes.nd rfl (Or.inl rfl) (pe_call G__law_draw (hr.mono (by decide)) rfl T.g__law_draw T.k__law_draw b__law_draw .nil pass0 (pa_cons (pv 0) (pa_cons pe_int pa_nil))))
      (pss_cons (ps_if (pt_cmpR u_lt (pv 4) pe_int (nomark _)) (pss_one (ps_ret (pe_op u_catT (pe_op u_catT (pe_slice u_slT (pv 2) po_none (po_some (pv 3))) (pe_tup (pa_cons (pe_call G__law_odd_recipe (hr.mono (by decide)) rfl T.g__law_odd_recipe T.k__law_odd_recipe b__law_odd_recipe .nil pass0 (pa_cons (pv 0) (pa_cons (pv 1) (pa_cons (pe_ix u_ix (pv 2) (pv 3) (fun _ _ => rfl)) pa_nil)))) pa_nil))) (pe_slice u_slT (pv 2) (po_some (pe_op u_add (pv 3) pe_int)) po_none)))) pss_nil)
      (pss_cons (ps_if (pt_cmpR op_eq (pv 4) pe_int (nomark _)) (pss_one (ps_ret (pe_op u_catT (pe_slice u_slT (pv 2) po_none (po_some (pv 3))) (pe_slice u_slT (pv 2) (po_some (pe_op u_add (pv 3) pe_int)) po_none)))) pss_nil)
      (pss_cons (ps_if (pt_cmpR op_eq (pv 4) pe_int (nomark _)) (pss_one (ps_ret (pe_op u_catT (pv 2) (pe_op u_repT (pe_slice u_slT (pv 2) (po_some (pv 3)) (po_some (pe_op u_add (pv 3) pe_int))) (pe_op u_sub (pe_op u_add pe_int (pe_call G__law_draw (hr.mono (by decide)) rfl T.g__law_draw T.k__law_draw b__law_draw .nil pass0 (pa_cons (pv 0) (pa_cons pe_int pa_nil)))) (pe_callB u_len (by rfl) T.n_len (by decide +kernel) (pa_cons (pv 2) pa_nil))))))) pss_nil)
      (pss_one (ps_ret (pe_ix u_ix (pe_lst (pa_cons (pe_callTy u_lst (by rfl) T.n_list (by decide +kernel) (pa_cons (pv 2) pa_nil)) (pa_cons pe_non (pa_cons (pe_ix u_ix (pv 2) (pv 3) (fun _ _ => rfl)) (pa_cons (pe_tup pa_nil) (pa_cons pe_dnewK pa_nil)))))) (pe_call G__law_draw (hr.mono (by decide)) rfl T.g__law_draw T.k__law_draw b__law_draw .nil pass0 (pa_cons (pv 0) (pa_cons pe_int pa_nil))) (fun _ _ => rfl))))))))))
theorem ok__law_odd_part (T : Txt P K mg) : Ok P w K mg base CX0 4 (He.ga K "_law_odd_part") ["_law_hand_here", "_law_parts", "_law_kind"] sp__law_odd_part := by
  obtain ⟨fd__law_draw, b__law_draw, G__law_draw⟩ := ok__law_draw (w := w) (base := base) T
  obtain ⟨fd__law_odd_recipes, b__law_odd_recipes, G__law_odd_recipes⟩ := ok__law_odd_recipes (w := w) (base := base) T
  obtain ⟨fd, F⟩ := T.d__law_odd_part
  refine ⟨fd, F.binds fun _ _ _ _ _ _ us hl => match us, hl with | [_, _, _], _ => rfl, F.ok sc__law_odd_part (fun vs H Q E h => ?_) (fun cdv A outer s H vs Q E hr h => ⟨t__law_odd_part K, ?_, pure__law_odd_part vs H Q E h⟩)⟩
  · first | (obtain ⟨rfl, _⟩ := h; rfl) | (obtain ⟨_, rfl, _⟩ := h; rfl) | (obtain ⟨_, _, rfl, _⟩ := h; rfl) | (obtain ⟨_, _, _, rfl, _⟩ := h; rfl) | (obtain ⟨_, _, _, _, rfl, _⟩ := h; rfl) | (obtain ⟨_, _, _, _, _, rfl, _⟩ := h; rfl) | (obtain ⟨_, _, _, _, _, _, rfl, _⟩ := h; rfl) | (obtain ⟨_, _, _, _, _, _, _, rfl, _⟩ := h; rfl) | (obtain ⟨_, _, _, _, _, _, _, _, rfl, _⟩ := h; rfl) | (obtain ⟨_, _, _, _, _, _, _, _, _, rfl, _⟩ := h; rfl) | (obtain ⟨_, _, _, _, _, _, _, _, _, _, rfl, _⟩ := h; rfl) | (obtain ⟨_, _, _, _, _, _, _, _, _, _, _, rfl, _⟩ := h; rfl) | (obtain ⟨_, _, _, _, _, _, _, _, _, _, _, _, rfl, _⟩ := h; rfl) | (obtain ⟨_, _, _, _, _, _, _, _, _, _, _, _, _, rfl, _⟩ := h; rfl) | (obtain ⟨_, _, _, _, _, _, _, _, _, _, _, _, _, _, rfl, _⟩ := h; rfl) | (obtain ⟨_, _, _, _, _, _, _, _, _, _, _, _, _, _, _, rfl, _⟩ := h; rfl) | (obtain ⟨_, _, _, _, _, _, _, _, _, _, _, _, _, _, _, _, rfl, _⟩ := h; rfl)
  · exact (pss_cons (ps_asg (pv 1) (pg_tup rfl (pgs_cons (pg_name (i := 3) sc__law_odd_part.nd rfl (Or.inl rfl)) (pgs_cons (pg_name (i := 4) sc__law_odd_part.nd rfl (Or.inr rfl)) (pgs_cons (pg_name (i := 5) sc__law_odd_part.nd rfl (Or.inl rfl)) (pgs_cons (pg_name (i := 6) sc__law_odd_part.nd rfl (Or.inl rfl)) pgs_nil))))))
      (pss_cons (ps_set (i := 7) sc__law_odd_part.nd rfl (Or.inr rfl) (pe_call G__law_draw (hr.mono (by decide)) rfl T.g__law_draw T.k__law_draw b__law_draw .nil pass0 (pa_cons (pv 0) (pa_cons (pv 3) pa_nil))))
      (pss_cons (ps_if (pt_cmpR op_eq (pv 2) pe_int (nomark _)) (pss_cons (ps_set (i := 8) sc__law_odd_part.nd rfl (Or.inl rfl) (pe_lst (pa_cons pe_int (pa_cons pe_int (pa_cons (pe_un u_neg pe_int) (pa_cons pe_int (pa_cons pe_int (pa_cons pe_int (pa_cons (pe_op u_add (pv 3) pe_int) (pa_cons (pe_op u_sub (pv 3) pe_int) (pa_cons pe_bl (pa_cons pe_non (pa_cons (pe_callTy u_strI (by rfl) T.n_str (by decide +kernel) (pa_cons (pv 3) pa_nil)) (pa_cons (pe_tup (pa_cons (pv 3) pa_nil)) (pa_cons (pe_op u_pow pe_int pe_int) (pa_cons (pe_lst pa_nil) pa_nil))))))))))))))))
      (pss_one (ps_ret (pe_ix u_ix (pv 8) (pe_call G__law_draw (hr.mono (by decide)) rfl T.g__law_draw T.k__law_draw b__law_draw .nil pass0 (pa_cons (pv 0) (pa_cons (pe_callB u_len (by rfl) T.n_len (by decide +kernel) (pa_cons (pv 8) pa_nil)) pa_nil))) (fun _ _ => rfl))))) pss_nil)
      (pss_cons (ps_if (pt_cmpR op_eq (pv 2) pe_int (nomark _)) (pss_cons (ps_set (i := 8) sc__law_odd_part.nd rfl (Or.inl rfl) (pe_lst (pa_cons (pe_tup pa_nil) (pa_cons (pe_tup (pa_cons (pv 7) pa_nil)) (pa_cons (pe_slice u_slT (pv 4) po_none (po_some pe_int)) (pa_cons (pe_op u_catT (pv 4) (pv 4)) (pa_cons (pe_revT (pv 4)) (pa_cons (pe_callTy u_lst (by rfl) T.n_list (by decide +kernel) (pa_cons (pv 4) pa_nil)) (pa_cons pe_non (pa_cons (pe_tup (pa_cons (pv 3) pa_nil)) (pa_cons (pe_tup (pa_cons (pe_un u_neg pe_int) pa_nil)) (pa_cons (pe_tup (pa_cons pe_bl pa_nil)) (pa_cons (pe_ix u_ix (pv 4) pe_int (fun _ _ => rfl)) pa_nil)))))))))))))
      (pss_cons (ps_set (i := 8) sc__law_odd_part.nd rfl (Or.inl rfl) (pe_op op_cat (pv 8) (pe_lst (pa_cons (pe_tupRg rfl rfl T.n_tuple (prg_1 rfl T.n_range (pv 3))) (pa_cons (pv 6) (pa_cons (pe_callTy u_tup (by rfl) T.n_tuple (by decide +kernel) (pa_cons (pe_callB u_sorted (by rfl) T.n_sorted (by decide +kernel) (pa_cons (pe_op op_cat (pe_lc (own := [("_law_k", 9)]) (g := (gName 9)) (tt := (tTest (tOp rNe (tVar 9) (tVar 7)))) rfl sc__law_odd_part.nd (pi_tup (pv 4)) (blkOk_by (own := [("_law_k", 9)]) (N := N__law_odd_part) (sc := defScope s__law_odd_part) (by decide +kernel)) (fun _ _ _ _ _ => (pg_name (i := 9) sc__law_odd_part.nd rfl (Or.inl rfl))) (fun _ _ _ _ _ => (pts_one (pt_cmpR op_ne (pv 9) (pv 7) (nomark _)))) (fun _ _ _ _ _ => (pv 9))) (pe_lst (pa_cons (pv 7) pa_nil))) pa_nil)) pa_nil)) (pa_cons (pe_tup (pa_cons (pe_callTy u_strI (by rfl) T.n_str (by decide +kernel) (pa_cons (pv 7) pa_nil)) pa_nil)) pa_nil)))))))
      (pss_one (ps_ret (pe_ix u_ix (pv 8) (pe_call G__law_draw (hr.mono (by decide)) rfl T.g__law_draw T.k__law_draw b__law_draw .nil pass0 (pa_cons (pv 0) (pa_cons (pe_callB u_len (by rfl) T.n_len (by decide +kernel) (pa_cons (pv 8) pa_nil)) pa_nil))) (fun _ _ => rfl)))))) pss_nil)
      (pss_cons (ps_if (pt_cmpR op_eq (pv 2) pe_int (nomark _)) (pss_one (ps_ret (pe_call G__law_odd_recipes (hr.mono (by decide)) rfl T.g__law_odd_recipes T.k__law_odd_recipes b__law_odd_recipes .nil pass0 (pa_cons (pv 0) (pa_cons (pv 1) pa_nil))))) pss_nil)
      (pss_cons (ps_set (i := 8) sc__law_odd_part.nd rfl (Or.inl rfl) (pe_lst (pa_cons (pe_tup pa_nil) (pa_cons (pe_tup (pa_cons (pv 7) pa_nil)) (pa_cons (pv 4) (pa_cons (pe_slice u_slT (pv 6) po_none (po_some pe_int)) (pa_cons (pe_op u_catT (pv 6) (pv 6)) (pa_cons (pe_revT (pv 6)) (pa_cons (pe_callTy u_lst (by rfl) T.n_list (by decide +kernel) (pa_cons (pv 6) pa_nil)) (pa_cons pe_non (pa_cons (pe_tup (pa_cons (pv 3) pa_nil)) (pa_cons (pe_tup (pa_cons (pe_un u_neg pe_int) pa_nil)) (pa_cons (pe_tup (pa_cons pe_bl pa_nil)) pa_nil)))))))))))))
      (pss_cons (ps_set (i := 8) sc__law_odd_part.nd rfl (Or.inl rfl) (pe_op op_cat (pv 8) (pe_lst (pa_cons (pe_callTy u_tup (by rfl) T.n_tuple (by decide +kernel) (pa_cons (pe_lc (own := [("_law_k", 9)]) (g := (gName 9)) (tt := (tTest (tOp (rInF true) (tVar 9) (tVar 4)))) rfl sc__law_odd_part.nd (pi_range1 rfl T.n_range (pa_cons (pv 3) pa_nil)) (blkOk_by (own := [("_law_k", 9)]) (N := N__law_odd_part) (sc := defScope s__law_odd_part) (by decide +kernel)) (fun _ _ _ _ _ => (pg_name (i := 9) sc__law_odd_part.nd rfl (Or.inl rfl))) (fun _ _ _ _ _ => (pts_one (pt_cmpR u_notin (pv 9) (pv 4) rfl))) (fun _ _ _ _ _ => (pv 9))) pa_nil)) (pa_cons (pe_ix u_ix (pv 6) pe_int (fun _ _ => rfl)) (pa_cons (pe_tup (pa_cons (pe_callTy u_strI (by rfl) T.n_str (by decide +kernel) (pa_cons (pv 7) pa_nil)) pa_nil)) pa_nil))))))
      (pss_cons (ps_expr (pe_bm PySem.F.plainAttrs_list PySem.F.slot_list_append PySem.F.type_list_append mt_append (pv 8) (pa_cons (pe_callTy u_tup (by rfl) T.n_tuple (by decide +kernel) (pa_cons (pe_callB u_sorted (by rfl) T.n_sorted (by decide +kernel) (pa_cons (pe_op op_cat (pe_lc (own := [("_law_k", 9)]) (g := (gName 9)) (tt := (tTest (tOp rNe (tVar 9) (tVar 7)))) rfl sc__law_odd_part.nd (pi_tup (pv 6)) (blkOk_by (own := [("_law_k", 9)]) (N := N__law_odd_part) (sc := defScope s__law_odd_part) (by decide +kernel)) (fun _ _ _ _ _ => (pg_name (i := 9) sc__law_odd_part.nd rfl (Or.inl rfl))) (fun _ _ _ _ _ => (pts_one (pt_cmpR op_ne (pv 9) (pv 7) (nomark _)))) (fun _ _ _ _ _ => (pv 9))) (pe_lst (pa_cons (pv 7) pa_nil))) pa_nil)) pa_nil)) pa_nil)))
      (pss_one (ps_ret (pe_ix u_ix (pv 8) (pe_call G__law_draw (hr.mono (by decide)) rfl T.g__law_draw T.k__law_draw b__law_draw .nil pass0 (pa_cons (pv 0) (pa_cons (pe_callB u_len (by rfl) T.n_len (by decide +kernel) (pa_cons (pv 8) pa_nil)) pa_nil))) (fun _ _ => rfl))))))))))))
theorem ok__law_spoiled (T : Txt P K mg) : Ok P w K mg base CX0 5 (He.ga K "_law_spoiled") ["_law_hand_here", "_law_parts"] sp__law_spoiled := by
  obtain ⟨fd__law_draw, b__law_draw, G__law_draw⟩ := ok__law_draw (w := w) (base := base) T
  obtain ⟨fd__law_odd_part, b__law_odd_part, G__law_odd_part⟩ := ok__law_odd_part (w := w) (base := base) T
  obtain ⟨fd, F⟩ := T.d__law_spoiled
  refine ⟨fd, F.binds fun _ _ _ _ _ _ us hl => match us, hl with | [_, _], _ => rfl, F.ok sc__law_spoiled (fun vs H Q E h => ?_) (fun cdv A outer s H vs Q E hr h => ⟨t__law_spoiled , ?_, pure__law_spoiled vs H Q E h⟩)⟩
  · first | (obtain ⟨rfl, _⟩ := h; rfl) | (obtain ⟨_, rfl, _⟩ := h; rfl) | (obtain ⟨_, _, rfl, _⟩ := h; rfl) | (obtain ⟨_, _, _, rfl, _⟩ := h; rfl) | (obtain ⟨_, _, _, _, rfl, _⟩ := h; rfl) | (obtain ⟨_, _, _, _, _, rfl, _⟩ := h; rfl) | (obtain ⟨_, _, _, _, _, _, rfl, _⟩ := h; rfl) | (obtain ⟨_, _, _, _, _, _, _, rfl, _⟩ := h; rfl) | (obtain ⟨_, _, _, _, _, _, _, _, rfl, _⟩ := h; rfl) | (obtain ⟨_, _, _, _, _, _, _, _, _, rfl, _⟩ := h; rfl) | (obtain ⟨_, _, _, _, _, _, _, _, _, _, rfl, _⟩ := h; rfl) | (obtain ⟨_, _, _, _, _, _, _, _, _, _, _, rfl, _⟩ := h; rfl) | (obtain ⟨_, _, _, _, _, _, _, _, _, _, _, _, rfl, _⟩ := h; rfl) | (obtain ⟨_, _, _, _, _, _, _, _, _, _, _, _, _, rfl, _⟩ := h; rfl) | (obtain ⟨_, _, _, _, _, _, _, _, _, _, _, _, _, _, rfl, _⟩ := h; rfl) | (obtain ⟨_, _, _, _, _, _, _, _, _, _, _, _, _, _, _, rfl, _⟩ := h; rfl) | (obtain ⟨_, _, _, _, _, _, _, _, _, _, _, _, _, _, _, _, rfl, _⟩ := h; rfl)
  · exact (pss_cons (ps_set (i := 2) sc__law_spoiled.nd rfl (Or.inl rfl) (pe_callTy u_lst (by rfl) T.n_list (by decide +kernel) (pa_cons (pv 1) pa_nil)))
      (pss_cons (ps_for PassesOwn.never rfl (pi_range1 rfl T.n_range (pa_cons (pe_op u_add pe_int (pe_call G__law_draw (hr.mono (by decide)) rfl T.g__law_draw T.k__law_draw b__law_draw .nil pass0 (pa_cons (pv 0) (pa_cons pe_int pa_nil)))) pa_nil)) (pg_name (i := 3) sc__law_spoiled.nd rfl (Or.inl rfl))
      (pss_cons (ps_set (i := 4) sc__law_spoiled.nd rfl (Or.inl rfl) (pe_call G__law_draw (hr.mono (by decide)) rfl T.g__law_draw T.k__law_draw b__law_draw .nil pass0 (pa_cons (pv 0) (pa_cons pe_int pa_nil))))
      (pss_one (ps_asg (pe_call G__law_odd_part (hr.mono (by decide)) rfl T.g__law_odd_part T.k__law_odd_part b__law_odd_part .nil pass0 (pa_cons (pv 0) (pa_cons (pv 1) (pa_cons (pv 4) pa_nil)))) (pg_sub (pv 2) (pv 4) set_list)))))
      (pss_one (ps_ret (pv 2)))))
theorem ok_kitchen_order (T : Txt P K mg) : Ok P w K mg base CX0 1 (He.ga K "kitchen_order") ["cookery"] (sp_kitchen_order (He.ga K "Cookery")) := by
  obtain ⟨fd, F⟩ := T.d_kitchen_order
  refine ⟨fd, F.binds fun _ _ _ _ _ _ us hl => match us, hl with | [_], _ => rfl, F.ok sc_kitchen_order (fun vs H Q E h => ?_) (fun cdv A outer s H vs Q E hr h => ⟨t_kitchen_order K, ?_, pure_kitchen_order T.cook vs H Q E h⟩)⟩
  · first | (obtain ⟨rfl, _⟩ := h; rfl) | (obtain ⟨_, rfl, _⟩ := h; rfl) | (obtain ⟨_, _, rfl, _⟩ := h; rfl) | (obtain ⟨_, _, _, rfl, _⟩ := h; rfl) | (obtain ⟨_, _, _, _, rfl, _⟩ := h; rfl) | (obtain ⟨_, _, _, _, _, rfl, _⟩ := h; rfl) | (obtain ⟨_, _, _, _, _, _, rfl, _⟩ := h; rfl) | (obtain ⟨_, _, _, _, _, _, _, rfl, _⟩ := h; rfl) | (obtain ⟨_, _, _, _, _, _, _, _, rfl, _⟩ := h; rfl) | (obtain ⟨_, _, _, _, _, _, _, _, _, rfl, _⟩ := h; rfl) | (obtain ⟨_, _, _, _, _, _, _, _, _, _, rfl, _⟩ := h; rfl) | (obtain ⟨_, _, _, _, _, _, _, _, _, _, _, rfl, _⟩ := h; rfl) | (obtain ⟨_, _, _, _, _, _, _, _, _, _, _, _, rfl, _⟩ := h; rfl) | (obtain ⟨_, _, _, _, _, _, _, _, _, _, _, _, _, rfl, _⟩ := h; rfl) | (obtain ⟨_, _, _, _, _, _, _, _, _, _, _, _, _, _, rfl, _⟩ := h; rfl) | (obtain ⟨_, _, _, _, _, _, _, _, _, _, _, _, _, _, _, rfl, _⟩ := h; rfl) | (obtain ⟨_, _, _, _, _, _, _, _, _, _, _, _, _, _, _, _, rfl, _⟩ := h; rfl)
  · exact (pss_cons (ps_set (i := 1) sc_kitchen_order.nd rfl (Or.inr rfl) (pe_lst pa_nil))
      (pss_cons (ps_set (i := 2) sc_kitchen_order.nd rfl (Or.inl rfl) pe_bl)
      (pss_cons (ps_while PassesOwn.never (pt_val (pv 2))
      (pss_cons (ps_set (i := 2) sc_kitchen_order.nd rfl (Or.inl rfl) pe_bl)
      (pss_one (ps_for PassesOwn.never rfl (pi_range1 rfl T.n_range (pa_cons (pe_fld (pv 0) rfl) pa_nil)) (pg_name (i := 3) sc_kitchen_order.nd rfl (Or.inr rfl))
      (pss_cons (ps_setLc (i := 4) (own := [("lot", 5), ("made", 6)]) (g := (gTup K 2 (gCons (gName 5) (gCons (gName 6) gNil)))) (tt := (tTest (tOp rEq (tVar 6) (tVar 3)))) rfl sc_kitchen_order.nd rfl rfl (sw_true rfl rfl rfl (by decide +kernel)) (pi_tup (pe_fld (pv 0) rfl)) (blkOk_by (own := [("lot", 5), ("made", 6)]) (N := N_kitchen_order) (sc := defScope s_kitchen_order) (by decide +kernel)) (fun _ _ _ _ _ => (pg_tup rfl (pgs_cons (pg_name (i := 5) sc_kitchen_order.nd rfl (Or.inl rfl)) (pgs_cons (pg_name (i := 6) sc_kitchen_order.nd rfl (Or.inl rfl)) pgs_nil)))) (fun _ _ _ _ _ => (pts_one (pt_cmpR op_eq (pv 6) (pv 3) (nomark _)))) (fun _ _ _ _ _ => (pv 5)))
      (pss_one (ps_if (PW.pt (pw_and (pt_cmpR u_notin (pv 3) (pv 1) rfl) (pw_and1 (pt_val (pe_callB (u_all rfl) (by rfl) T.n_all (by decide +kernel) (pa_cons (pe_lc (own := [("lot", 5)]) (g := (gName 5)) (tt := tYes) rfl sc_kitchen_order.nd (pi_list (pv 4)) (blkOk_by (own := [("lot", 5)]) (N := N_kitchen_order) (sc := defScope s_kitchen_order) (by decide +kernel)) (fun _ _ _ _ _ => (pg_name (i := 5) sc_kitchen_order.nd rfl (Or.inl rfl))) (fun _ _ _ _ _ => pts_nil) (fun _ _ _ _ _ => (pe_callB (u_all rfl) (by rfl) T.n_all (by decide +kernel) (pa_cons (pe_lc (own := [("one", 7)]) (g := (gName 7)) (tt := tYes) rfl sc_kitchen_order.nd (pi_tup (pv 5)) (blkOk_by (own := [("one", 7)]) (by kernel_rfl)) (fun _ _ _ _ _ => (pg_name (i := 7) sc_kitchen_order.nd rfl (Or.inl rfl))) (fun _ _ _ _ _ => pts_nil) (fun _ _ _ _ _ => (pe_cmpR u_in (pv 7) (pv 1) rfl))) pa_nil)))) pa_nil)))))) (pss_cons (ps_expr (pe_bm PySem.F.plainAttrs_list PySem.F.slot_list_append PySem.F.type_list_append mt_append (pv 1) (pa_cons (pv 3) pa_nil)))
      (pss_one (ps_set (i := 2) sc_kitchen_order.nd rfl (Or.inl rfl) pe_bl))) pss_nil)))))))
      (pss_cons (ps_if (pt_cmpR u_lt (pe_callB u_len (by rfl) T.n_len (by decide +kernel) (pa_cons (pv 1) pa_nil)) (pe_fld (pv 0) rfl) (nomark _)) (pss_one (ps_ret pe_non)) pss_nil)
      (pss_one (ps_ret (pe_callTy u_tupZ (by rfl) T.n_tuple (by decide +kernel) (pa_cons (pv 1) pa_nil))))))))
theorem okf_law {fd : FuncData} (F : Fun K "law" "law" s_law (He.ga K "law") fd) (T : Txt P K mg) : FnOk P w K mg base CX0 10 (He.ga K "law") fd ["_law_script"] (sp_law K) := by
  obtain ⟨fd_Cookery_eq, b_Cookery_eq, G_Cookery_eq⟩ := ok_Cookery_eq (w := w) (base := base) T
  obtain ⟨fd_Cookery_init, b_Cookery_init, G_Cookery_init⟩ := ok_Cookery_init (w := w) (base := base) T
  obtain ⟨fd_Map_init, b_Map_init, G_Map_init⟩ := ok_Map_init (w := w) (base := base) T
  obtain ⟨fd__law_bad, b__law_bad, G__law_bad⟩ := ok__law_bad (w := w) (base := base) T
  obtain ⟨fd__law_built, b__law_built, G__law_built⟩ := ok__law_built (w := w) (base := base) T
  obtain ⟨fd__law_draw, b__law_draw, G__law_draw⟩ := ok__law_draw (w := w) (base := base) T
  obtain ⟨fd__law_hand, b__law_hand, G__law_hand⟩ := ok__law_hand (w := w) (base := base) T
  obtain ⟨fd__law_is_order, b__law_is_order, G__law_is_order⟩ := ok__law_is_order (w := w) (base := base) T
  obtain ⟨fd__law_keeps, b__law_keeps, G__law_keeps⟩ := ok__law_keeps (w := w) (base := base) T
  obtain ⟨fd__law_kitchen, b__law_kitchen, G__law_kitchen⟩ := ok__law_kitchen (w := w) (base := base) T
  obtain ⟨fd__law_spoiled, b__law_spoiled, G__law_spoiled⟩ := ok__law_spoiled (w := w) (base := base) T
  obtain ⟨fd_kitchen_order, b_kitchen_order, G_kitchen_order⟩ := ok_kitchen_order (w := w) (base := base) T
  refine F.ok sc_law (fun vs H Q E h => ?_) (fun cdv A outer s H vs Q E hr h => ⟨t_law K (He.ga K "Cookery") (He.ga K "NoCookery") (He.ga K "Map") (He.ga K "NoMap"), ?_, pure_law T.law vs H Q E h⟩)
  · first | (obtain ⟨rfl, _⟩ := h; rfl) | (obtain ⟨_, rfl, _⟩ := h; rfl) | (obtain ⟨_, _, rfl, _⟩ := h; rfl) | (obtain ⟨_, _, _, rfl, _⟩ := h; rfl) | (obtain ⟨_, _, _, _, rfl, _⟩ := h; rfl) | (obtain ⟨_, _, _, _, _, rfl, _⟩ := h; rfl) | (obtain ⟨_, _, _, _, _, _, rfl, _⟩ := h; rfl) | (obtain ⟨_, _, _, _, _, _, _, rfl, _⟩ := h; rfl) | (obtain ⟨_, _, _, _, _, _, _, _, rfl, _⟩ := h; rfl) | (obtain ⟨_, _, _, _, _, _, _, _, _, rfl, _⟩ := h; rfl) | (obtain ⟨_, _, _, _, _, _, _, _, _, _, rfl, _⟩ := h; rfl) | (obtain ⟨_, _, _, _, _, _, _, _, _, _, _, rfl, _⟩ := h; rfl) | (obtain ⟨_, _, _, _, _, _, _, _, _, _, _, _, rfl, _⟩ := h; rfl) | (obtain ⟨_, _, _, _, _, _, _, _, _, _, _, _, _, rfl, _⟩ := h; rfl) | (obtain ⟨_, _, _, _, _, _, _, _, _, _, _, _, _, _, rfl, _⟩ := h; rfl) | (obtain ⟨_, _, _, _, _, _, _, _, _, _, _, _, _, _, _, rfl, _⟩ := h; rfl) | (obtain ⟨_, _, _, _, _, _, _, _, _, _, _, _, _, _, _, _, rfl, _⟩ := h; rfl)
  · exact (pss_cons (ps_set (i := 1) sc_law.nd rfl (Or.inl rfl) (pe_call G__law_hand (hr.mono (by decide)) rfl T.g__law_hand T.k__law_hand b__law_hand .nil pass0 (pa_cons (pv 0) pa_nil)))
      (pss_cons (ps_asg (pe_ix u_ix (pe_lst (pa_cons (pe_tup (pa_cons pe_int (pa_cons pe_int pa_nil))) (pa_cons (pe_tup (pa_cons pe_int (pa_cons pe_int pa_nil))) (pa_cons (pe_tup (pa_cons pe_int (pa_cons pe_int pa_nil))) (pa_cons (pe_tup (pa_cons pe_int (pa_cons pe_int pa_nil))) pa_nil))))) (pe_call G__law_draw (hr.mono (by decide)) rfl T.g__law_draw T.k__law_draw b__law_draw .nil pass0 (pa_cons (pv 1) (pa_cons pe_int pa_nil))) (fun _ _ => rfl)) (pg_tup rfl (pgs_cons (pg_name (i := 2) sc_law.nd rfl (Or.inl rfl)) (pgs_cons (pg_name (i := 3) sc_law.nd rfl (Or.inl rfl)) pgs_nil))))
      (pss_cons (ps_set (i := 4) sc_law.nd rfl (Or.inl rfl) (pe_call G__law_kitchen (hr.mono (by decide)) rfl T.g__law_kitchen T.k__law_kitchen b__law_kitchen .nil pass0 (pa_cons (pv 1) (pa_cons (pv 2) (pa_cons (pv 3) pa_nil)))))
      (pss_cons (ps_asg (pe_call G__law_built (hr.mono (by decide)) rfl T.g__law_built T.k__law_built b__law_built .nil pass0 (pa_cons (pv 4) pa_nil)) (pg_tup rfl (pgs_cons (pg_name (i := 5) sc_law.nd rfl (Or.inl rfl)) (pgs_cons (pg_name (i := 6) sc_law.nd rfl (Or.inl rfl)) pgs_nil))))
      (pss_cons (ps_if (PW.pt (pw_or (pt_cmpR u_notN (pv 5) pe_non (nomark _)) (pw_or (pt_cmpR u_isN (pv 6) pe_non (nomark _)) (pw_or1 (pt_not (pt_val (pe_call G__law_keeps (hr.mono (by decide)) rfl T.g__law_keeps T.k__law_keeps b__law_keeps .nil pass0 (pa_cons (pv 6) (pa_cons (pv 4) pa_nil))))))))) (pss_one (ps_ret pe_bl)) pss_nil)
      (pss_cons (ps_if (pt_not (pt_val (pe_call G__law_is_order (hr.mono (by decide)) rfl T.g__law_is_order T.k__law_is_order b__law_is_order .nil pass0 (pa_cons (pv 4) (pa_cons (pe_call G_kitchen_order (hr.mono (by decide)) rfl T.g_kitchen_order T.k_kitchen_order b_kitchen_order .nil pass0 (pa_cons (pv 6) pa_nil)) pa_nil))))) (pss_one (ps_ret pe_bl)) pss_nil)
      (pss_cons (ps_set (i := 7) sc_law.nd rfl (Or.inl rfl) (pe_make T.m_Cookery G_Cookery_init (hr.mono (by decide)) rfl T.g_Cookery b_Cookery_init .nil passL (pa_cons (pe_ix u_ix (pv 4) pe_int (fun _ _ => rfl)) (pa_cons (pe_ix u_ix (pv 4) pe_int (fun _ _ => rfl)) (pa_cons (pe_ix u_ix (pv 4) pe_int (fun _ _ => rfl)) (pa_cons (pe_ix u_ix (pv 4) pe_int (fun _ _ => rfl)) pa_nil))))))
      (pss_cons (ps_if (PW.pt (pw_or (pt_cmpR op_notBl (pe_cmpR (op_eqO G_Cookery_eq T.me_Cookery_eq.at_ T.me_Cookery_eq.fn b_Cookery_eq pass0 (hr.mono (by decide))) (pv 6) (pv 7) (nomark _)) pe_bl (nomark _)) (pw_or (pt_cmpR op_notBl (pe_cmpR (op_eqO G_Cookery_eq T.me_Cookery_eq.at_ T.me_Cookery_eq.fn b_Cookery_eq pass0 (hr.mono (by decide))) (pv 6) (pv 4) (nomark _)) pe_bl (nomark _)) (pw_or1 (pt_cmpR op_notBl (pe_cmpR (op_eqO G_Cookery_eq T.me_Cookery_eq.at_ T.me_Cookery_eq.fn b_Cookery_eq pass0 (hr.mono (by decide))) (pv 6) pe_non (nomark _)) pe_bl (nomark _)))))) (pss_one (ps_ret pe_bl)) pss_nil)
      (pss_cons (ps_if (pt_cmpR op_notBl (pe_cmpR (op_eqO G_Cookery_eq T.me_Cookery_eq.at_ T.me_Cookery_eq.fn b_Cookery_eq pass0 (hr.mono (by decide))) (pv 6) (pe_make T.m_Map G_Map_init (hr.mono (by decide)) rfl T.g_Map b_Map_init .nil passL (pa_cons pe_int (pa_cons (pe_tup (pa_cons (pe_tup (pa_cons pe_int (pa_cons pe_int pa_nil))) pa_nil)) (pa_cons (pe_tup (pa_cons pe_int pa_nil)) pa_nil)))) (nomark _)) pe_bl (nomark _)) (pss_one (ps_ret pe_bl)) pss_nil)
      (pss_cons (ps_for PassesOwn.never rfl (pi_range1 rfl T.n_range (pa_cons pe_int pa_nil)) (pg_name (i := 8) sc_law.nd rfl (Or.inl rfl))
      (pss_cons (ps_set (i := 9) sc_law.nd rfl (Or.inl rfl) (pe_call G__law_spoiled (hr.mono (by decide)) rfl T.g__law_spoiled T.k__law_spoiled b__law_spoiled .nil pass0 (pa_cons (pv 1) (pa_cons (pv 4) pa_nil))))
      (pss_cons (ps_set (i := 10) sc_law.nd rfl (Or.inl rfl) (pe_call G__law_bad (hr.mono (by decide)) rfl T.g__law_bad T.k__law_bad b__law_bad .nil pass0 (pa_cons (pv 9) pa_nil)))
      (pss_cons (ps_asg (pe_call G__law_built (hr.mono (by decide)) rfl T.g__law_built T.k__law_built b__law_built .nil pass0 (pa_cons (pv 9) pa_nil)) (pg_tup rfl (pgs_cons (pg_name (i := 5) sc_law.nd rfl (Or.inl rfl)) (pgs_cons (pg_name (i := 11) sc_law.nd rfl (Or.inl rfl)) pgs_nil))))
      (pss_cons (ps_if (PW.pt (pw_or (pt_cmpR op_ne (pv 5) (pv 10) (nomark _)) (pw_or1 (pt_cmpR op_ne (pe_cmpR u_isN (pv 11) pe_non (nomark _)) (pe_cmpR u_notN (pv 10) pe_non (nomark _)) (nomark _))))) (pss_one (ps_ret pe_bl)) pss_nil)
      (pss_one (ps_if (pt_cmpR u_isN (pv 10) pe_non (nomark _)) (pss_cons (ps_if (PW.pt (pw_or (pt_not (pt_val (pe_call G__law_keeps (hr.mono (by decide)) rfl T.g__law_keeps T.k__law_keeps b__law_keeps .nil pass0 (pa_cons (pv 11) (pa_cons (pv 9) pa_nil))))) (pw_or1 (pt_not (pt_val (pe_call G__law_is_order (hr.mono (by decide)) rfl T.g__law_is_order T.k__law_is_order b__law_is_order .nil pass0 (pa_cons (pv 9) (pa_cons (pe_call G_kitchen_order (hr.mono (by decide)) rfl T.g_kitchen_order T.k_kitchen_order b_kitchen_order .nil pass0 (pa_cons (pv 11) pa_nil)) pa_nil)))))))) (pss_one (ps_ret pe_bl)) pss_nil)
      (pss_cons (ps_if (PW.pt (pw_and (pt_cmpR op_notBl (pe_cmpR (op_eqO G_Cookery_eq T.me_Cookery_eq.at_ T.me_Cookery_eq.fn b_Cookery_eq pass0 (hr.mono (by decide))) (pv 6) (pv 11) (nomark _)) pe_bl (nomark _)) (pw_and1 (pt_cmpR op_notBl (pe_cmpR (op_eqO G_Cookery_eq T.me_Cookery_eq.at_ T.me_Cookery_eq.fn b_Cookery_eq pass0 (hr.mono (by decide))) (pv 6) (pv 11) (nomark _)) pe_bl (nomark _))))) (pss_one (ps_ret pe_bl)) pss_nil)
      (pss_one (ps_if (pt_cmpR op_ne (pe_cmpR (op_eqO G_Cookery_eq T.me_Cookery_eq.at_ T.me_Cookery_eq.fn b_Cookery_eq pass0 (hr.mono (by decide))) (pv 6) (pv 11) (nomark _)) (pe_cmpR (op_eqP hr.units) (pe_callTy u_lst (by rfl) T.n_list (by decide +kernel) (pa_cons (pv 4) pa_nil)) (pv 9) (nomark _)) (nomark _)) (pss_one (ps_ret pe_bl)) pss_nil)))) pss_nil)))))))
      (pss_one (ps_ret (pe_call G__law_keeps (hr.mono (by decide)) rfl T.g__law_keeps T.k__law_keeps b__law_keeps .nil pass0 (pa_cons (pv 6) (pa_cons (pv 4) pa_nil)))))))))))))))
end
/-! ### the facts by names -/
def dd_Cookery_parts : He.DefD := ⟨("Cookery", some "parts"), "parts", "Cookery.parts", defArgs s_Cookery_parts, defBody s_Cookery_parts, defScope s_Cookery_parts, [], []⟩
def dd_Cookery_eq : He.DefD := ⟨("Cookery", some "__eq__"), "__eq__", "Cookery.__eq__", defArgs s_Cookery_eq, defBody s_Cookery_eq, defScope s_Cookery_eq, [], []⟩
def dd_is_integer : He.DefD := ⟨("is_integer", none), "is_integer", "is_integer", defArgs s_is_integer, defBody s_is_integer, defScope s_is_integer, [], []⟩
def dd_is_between : He.DefD := ⟨("is_between", none), "is_between", "is_between", defArgs s_is_between, defBody s_is_between, defScope s_is_between, [], []⟩
def dd_is_index : He.DefD := ⟨("is_index", none), "is_index", "is_index", defArgs s_is_index, defBody s_is_index, defScope s_is_index, [], []⟩
def dd_is_lot : He.DefD := ⟨("is_lot", none), "is_lot", "is_lot", defArgs s_is_lot, defBody s_is_lot, defScope s_is_lot, [], []⟩
def dd_is_recipe : He.DefD := ⟨("is_recipe", none), "is_recipe", "is_recipe", defArgs s_is_recipe, defBody s_is_recipe, defScope s_is_recipe, [], []⟩
def dd_are_recipes : He.DefD := ⟨("are_recipes", none), "are_recipes", "are_recipes", defArgs s_are_recipes, defBody s_are_recipes, defScope s_are_recipes, [], []⟩
def dd_mask_of : He.DefD := ⟨("mask_of", none), "mask_of", "mask_of", defArgs s_mask_of, defBody s_mask_of, defScope s_mask_of, [], []⟩
def dd_made_from : He.DefD := ⟨("made_from", none), "made_from", "made_from", defArgs s_made_from, defBody s_made_from, defScope s_made_from, [], []⟩
def dd_Cookery_init : He.DefD := ⟨("Cookery", some "__init__"), "__init__", "Cookery.__init__", defArgs s_Cookery_init, defBody s_Cookery_init, defScope s_Cookery_init, [], []⟩
def dd_Map_keep : He.DefD := ⟨("Map", some "keep"), "keep", "Map.keep", defArgs s_Map_keep, defBody s_Map_keep, defScope s_Map_keep, [], []⟩
def dd_are_arrows : He.DefD := ⟨("are_arrows", none), "are_arrows", "are_arrows", defArgs s_are_arrows, defBody s_are_arrows, defScope s_are_arrows, [], []⟩
def dd_lot_of : He.DefD := ⟨("lot_of", none), "lot_of", "lot_of", defArgs s_lot_of, defBody s_lot_of, defScope s_lot_of, [], []⟩
def dd_led_to : He.DefD := ⟨("led_to", none), "led_to", "led_to", defArgs s_led_to, defBody s_led_to, defScope s_led_to, [], []⟩
def dd_are_goals : He.DefD := ⟨("are_goals", none), "are_goals", "are_goals", defArgs s_are_goals, defBody s_are_goals, defScope s_are_goals, [], []⟩
def dd_Map_init : He.DefD := ⟨("Map", some "__init__"), "__init__", "Map.__init__", defArgs s_Map_init, defBody s_Map_init, defScope s_Map_init, [], []⟩
def dd__law_is_number : He.DefD := ⟨("_law_is_number", none), "_law_is_number", "_law_is_number", defArgs s__law_is_number, defBody s__law_is_number, defScope s__law_is_number, [], []⟩
def dd__law_is_lot : He.DefD := ⟨("_law_is_lot", none), "_law_is_lot", "_law_is_lot", defArgs s__law_is_lot, defBody s__law_is_lot, defScope s__law_is_lot, [], []⟩
def dd__law_is_recipe : He.DefD := ⟨("_law_is_recipe", none), "_law_is_recipe", "_law_is_recipe", defArgs s__law_is_recipe, defBody s__law_is_recipe, defScope s__law_is_recipe, [], []⟩
def dd__law_made : He.DefD := ⟨("_law_made", none), "_law_made", "_law_made", defArgs s__law_made, defBody s__law_made, defScope s__law_made, [], []⟩
def dd__law_bad : He.DefD := ⟨("_law_bad", none), "_law_bad", "_law_bad", defArgs s__law_bad, defBody s__law_bad, defScope s__law_bad, [], []⟩
def dd__law_built : He.DefD := ⟨("_law_built", none), "_law_built", "_law_built", defArgs s__law_built, defBody s__law_built, defScope s__law_built, [], []⟩
def dd__law_draw : He.DefD := ⟨("_law_draw", none), "_law_draw", "_law_draw", defArgs s__law_draw, defBody s__law_draw, defScope s__law_draw, [], []⟩
def dd__law_hand : He.DefD := ⟨("_law_hand", none), "_law_hand", "_law_hand", defArgs s__law_hand, defBody s__law_hand, defScope s__law_hand, [], []⟩
def dd__law_has_ring : He.DefD := ⟨("_law_has_ring", none), "_law_has_ring", "_law_has_ring", defArgs s__law_has_ring, defBody s__law_has_ring, defScope s__law_has_ring, [], []⟩
def dd__law_is_order : He.DefD := ⟨("_law_is_order", none), "_law_is_order", "_law_is_order", defArgs s__law_is_order, defBody s__law_is_order, defScope s__law_is_order, [], []⟩
def dd_Cookery_given : He.DefD := ⟨("Cookery", some "given"), "given", "Cookery.given", defArgs s_Cookery_given, defBody s_Cookery_given, defScope s_Cookery_given, [], []⟩
def dd_Cookery_goals : He.DefD := ⟨("Cookery", some "goals"), "goals", "Cookery.goals", defArgs s_Cookery_goals, defBody s_Cookery_goals, defScope s_Cookery_goals, [], []⟩
def dd_Cookery_many : He.DefD := ⟨("Cookery", some "many"), "many", "Cookery.many", defArgs s_Cookery_many, defBody s_Cookery_many, defScope s_Cookery_many, [], []⟩
def dd_Cookery_recipes : He.DefD := ⟨("Cookery", some "recipes"), "recipes", "Cookery.recipes", defArgs s_Cookery_recipes, defBody s_Cookery_recipes, defScope s_Cookery_recipes, [], []⟩
def dd__law_keeps : He.DefD := ⟨("_law_keeps", none), "_law_keeps", "_law_keeps", defArgs s__law_keeps, defBody s__law_keeps, defScope s__law_keeps, [], []⟩
def dd__law_needs : He.DefD := ⟨("_law_needs", none), "_law_needs", "_law_needs", defArgs s__law_needs, defBody s__law_needs, defScope s__law_needs, [], []⟩
def dd__law_shuffled : He.DefD := ⟨("_law_shuffled", none), "_law_shuffled", "_law_shuffled", defArgs s__law_shuffled, defBody s__law_shuffled, defScope s__law_shuffled, [], []⟩
def dd__law_renamed : He.DefD := ⟨("_law_renamed", none), "_law_renamed", "_law_renamed", defArgs s__law_renamed, defBody s__law_renamed, defScope s__law_renamed, [], []⟩
def dd__law_kitchen : He.DefD := ⟨("_law_kitchen", none), "_law_kitchen", "_law_kitchen", defArgs s__law_kitchen, defBody s__law_kitchen, defScope s__law_kitchen, [], []⟩
def dd__law_odd_recipe : He.DefD := ⟨("_law_odd_recipe", none), "_law_odd_recipe", "_law_odd_recipe", defArgs s__law_odd_recipe, defBody s__law_odd_recipe, defScope s__law_odd_recipe, [], []⟩
def dd__law_odd_recipes : He.DefD := ⟨("_law_odd_recipes", none), "_law_odd_recipes", "_law_odd_recipes", defArgs s__law_odd_recipes, defBody s__law_odd_recipes, defScope s__law_odd_recipes, [], []⟩
def dd__law_odd_part : He.DefD := ⟨("_law_odd_part", none), "_law_odd_part", "_law_odd_part", defArgs s__law_odd_part, defBody s__law_odd_part, defScope s__law_odd_part, [], []⟩
def dd__law_spoiled : He.DefD := ⟨("_law_spoiled", none), "_law_spoiled", "_law_spoiled", defArgs s__law_spoiled, defBody s__law_spoiled, defScope s__law_spoiled, [], []⟩
def dd_kitchen_order : He.DefD := ⟨("kitchen_order", none), "kitchen_order", "kitchen_order", defArgs s_kitchen_order, defBody s_kitchen_order, defScope s_kitchen_order, [], []⟩
def dd_law : He.DefD := ⟨("law", none), "law", "law", defArgs s_law, defBody s_law, defScope s_law, [], []⟩
abbrev sx_NoCookery : Stmt := inClass (top 3) 0
def x_NoCookery : ExcD := ⟨"NoCookery", "part", "NoCookery.__init__", defArgs sx_NoCookery, defBody sx_NoCookery, defScope sx_NoCookery⟩
abbrev sx_NoMap : Stmt := inClass (top 2) 0
def x_NoMap : ExcD := ⟨"NoMap", "part", "NoMap.__init__", defArgs sx_NoMap, defBody sx_NoMap, defScope sx_NoMap⟩
def fns : List He.DefD := ([dd_Cookery_parts, dd_Cookery_eq, dd_is_integer, dd_is_between, dd_is_index, dd_is_lot, dd_is_recipe, dd_are_recipes, dd_mask_of, dd_made_from, dd_Cookery_init, dd_Map_keep, dd_are_arrows, dd_lot_of, dd_led_to, dd_are_goals, dd_Map_init, dd__law_is_number, dd__law_is_lot, dd__law_is_recipe, dd__law_made, dd__law_bad, dd__law_built, dd__law_draw, dd__law_hand, dd__law_has_ring, dd__law_is_order, dd_Cookery_given, dd_Cookery_goals, dd_Cookery_many] : List He.DefD) ++ ([dd_Cookery_recipes, dd__law_keeps, dd__law_needs, dd__law_shuffled, dd__law_renamed, dd__law_kitchen, dd__law_odd_recipe, dd__law_odd_recipes, dd__law_odd_part, dd__law_spoiled, dd_kitchen_order, dd_law] : List He.DefD)
def fas : List He.Fa := ([.int "MOST_ARROWS" 60, .int "MOST_PLACES" 40, .int "MOST_RECIPES" 40, .int "MOST_THINGS" 40, .cls "Cookery", .cls "Map", .glo "Cookery", .glo "Map", .glo "_law_bad", .glo "_law_built", .glo "_law_draw", .glo "_law_hand", .glo "_law_has_ring", .glo "_law_is_lot", .glo "_law_is_number", .glo "_law_is_order", .glo "_law_is_recipe", .glo "_law_keeps", .glo "_law_kitchen", .glo "_law_made", .glo "_law_needs", .glo "_law_odd_part", .glo "_law_odd_recipe", .glo "_law_odd_recipes", .glo "_law_renamed", .glo "_law_shuffled", .glo "_law_spoiled", .glo "are_arrows", .glo "are_goals", .glo "are_recipes"] : List He.Fa) ++ ([.glo "is_between", .glo "is_index", .glo "is_integer", .glo "is_lot", .glo "is_recipe", .glo "kitchen_order", .glo "led_to", .glo "lot_of", .glo "made_from", .glo "mask_of", .keep "_law_bad", .keep "_law_built", .keep "_law_draw", .keep "_law_hand", .keep "_law_has_ring", .keep "_law_is_lot", .keep "_law_is_number", .keep "_law_is_order", .keep "_law_is_recipe", .keep "_law_keeps", .keep "_law_kitchen", .keep "_law_made", .keep "_law_needs", .keep "_law_odd_part", .keep "_law_odd_recipe", .keep "_law_odd_recipes", .keep "_law_renamed", .keep "_law_shuffled", .keep "_law_spoiled", .keep "are_arrows"] : List He.Fa) ++ ([.keep "are_goals", .keep "are_recipes", .keep "is_between", .keep "is_index", .keep "is_integer", .keep "is_lot", .keep "is_recipe", .keep "kitchen_order", .keep "led_to", .keep "lot_of", .keep "made_from", .keep "mask_of", .mkr "Cookery", .mkr "Map", .meth "Cookery" "__eq__", .meth "Cookery" "given", .meth "Cookery" "goals", .meth "Cookery" "many", .meth "Cookery" "parts", .meth "Cookery" "recipes", .meth "Map" "keep", .free "abs", .free "all", .free "any", .free "bool", .free "enumerate", .free "int", .free "isinstance", .free "len", .free "list"] : List He.Fa) ++ ([.free "max", .free "min", .free "range", .free "sorted", .free "str", .free "tuple", .glo "NoCookery", .free "super", .glo "NoMap", .noat "Cookery" "kept_many", .noat "Cookery" "kept_given", .noat "Cookery" "kept_recipes", .noat "Cookery" "kept_goals", .noat "Map" "kept_many", .noat "Map" "kept_arrows", .noat "Map" "kept_goals", .noat "Map" "kept_left", .glo "law"] : List He.Fa)
def exs : List ExcD := [x_NoCookery, x_NoMap]
def moreB (K : PySem.W.Frag) : Bool := decide (PySem.W.findIn K (.ref (He.ga K "Cookery")) "__class__" = some (some (.builtin "object.__class__"))) && decide (PySem.W.specialIn K (.builtin "object.__class__") "__get__" = some (some (.builtin "getset_descriptor.__get__"))) && decide (PySem.W.takesIn K (.builtin "object.__class__") = some true) && decide (PySem.W.mroIn K (He.ga K "Cookery") (.type "object") = some true) && decide (PySem.W.findIn K (.ref (He.ga K "Map")) "__class__" = some (some (.builtin "object.__class__"))) && decide (PySem.W.mroIn K (He.ga K "Map") (.type "object") = some true) && PySem.W.notFirst K (He.ga K "Cookery") (.type "tuple") && decide (PySem.W.kitOne K (.type "tuple") (.ref (He.ga K "Cookery")) = some false) && PySem.W.notFirst K (He.ga K "Cookery") (.type "NoneType") && decide (PySem.W.kitOne K (.type "NoneType") (.ref (He.ga K "Cookery")) = some false) && PySem.W.notFirst K (He.ga K "Cookery") (.ref (He.ga K "Map")) && decide (PySem.W.kitOne K (.ref (He.ga K "Map")) (.ref (He.ga K "Cookery")) = some false)
theorem txt_of {P : Program} {K : PySem.W.Frag} {h : Heap} {mg : Str → Option Value} {file : Str} (X : K.In h) (G : h.Ns mainGlobals mg) (ht : (P.main.scope.names.lookup ("super" : Str)).isSome = false) (hf : ((P.main.file : Str) == file) = true) (c : SaysU fas fns exs file moreB K) : Txt P K mg :=
  have z := c.more_
  by
  unfold moreB at z
  simp only [Bool.and_eq_true, decide_eq_true_eq, and_assoc] at z
  obtain ⟨z0, z1, z2, z3, z4, z5, z6, z7, z8, z9, z10, z11⟩ := z
  exact {
    c_MOST_ARROWS := int_glob X G (c.fact 0),
    c_MOST_PLACES := int_glob X G (c.fact 1),
    c_MOST_RECIPES := int_glob X G (c.fact 2),
    c_MOST_THINGS := int_glob X G (c.fact 3),
    cl_Cookery := He.cls_ok (c.fact 4),
    cl_Map := He.cls_ok (c.fact 5),
    g_Cookery := He.glo_ok X G (c.fact 6),
    g_Map := He.glo_ok X G (c.fact 7),
    g__law_bad := He.glo_ok X G (c.fact 8),
    g__law_built := He.glo_ok X G (c.fact 9),
    g__law_draw := He.glo_ok X G (c.fact 10),
    g__law_hand := He.glo_ok X G (c.fact 11),
    g__law_has_ring := He.glo_ok X G (c.fact 12),
    g__law_is_lot := He.glo_ok X G (c.fact 13),
    g__law_is_number := He.glo_ok X G (c.fact 14),
    g__law_is_order := He.glo_ok X G (c.fact 15),
    g__law_is_recipe := He.glo_ok X G (c.fact 16),
    g__law_keeps := He.glo_ok X G (c.fact 17),
    g__law_kitchen := He.glo_ok X G (c.fact 18),
    g__law_made := He.glo_ok X G (c.fact 19),
    g__law_needs := He.glo_ok X G (c.fact 20),
    g__law_odd_part := He.glo_ok X G (c.fact 21),
    g__law_odd_recipe := He.glo_ok X G (c.fact 22),
    g__law_odd_recipes := He.glo_ok X G (c.fact 23),
    g__law_renamed := He.glo_ok X G (c.fact 24),
    g__law_shuffled := He.glo_ok X G (c.fact 25),
    g__law_spoiled := He.glo_ok X G (c.fact 26),
    g_are_arrows := He.glo_ok X G (c.fact 27),
    g_are_goals := He.glo_ok X G (c.fact 28),
    g_are_recipes := He.glo_ok X G (c.fact 29),
    g_is_between := He.glo_ok X G (c.fact 30),
    g_is_index := He.glo_ok X G (c.fact 31),
    g_is_integer := He.glo_ok X G (c.fact 32),
    g_is_lot := He.glo_ok X G (c.fact 33),
    g_is_recipe := He.glo_ok X G (c.fact 34),
    g_kitchen_order := He.glo_ok X G (c.fact 35),
    g_led_to := He.glo_ok X G (c.fact 36),
    g_lot_of := He.glo_ok X G (c.fact 37),
    g_made_from := He.glo_ok X G (c.fact 38),
    g_mask_of := He.glo_ok X G (c.fact 39),
    k__law_bad := He.keep_ok (c.fact 40),
    k__law_built := He.keep_ok (c.fact 41),
    k__law_draw := He.keep_ok (c.fact 42),
    k__law_hand := He.keep_ok (c.fact 43),
    k__law_has_ring := He.keep_ok (c.fact 44),
    k__law_is_lot := He.keep_ok (c.fact 45),
    k__law_is_number := He.keep_ok (c.fact 46),
    k__law_is_order := He.keep_ok (c.fact 47),
    k__law_is_recipe := He.keep_ok (c.fact 48),
    k__law_keeps := He.keep_ok (c.fact 49),
    k__law_kitchen := He.keep_ok (c.fact 50),
    k__law_made := He.keep_ok (c.fact 51),
    k__law_needs := He.keep_ok (c.fact 52),
    k__law_odd_part := He.keep_ok (c.fact 53),
    k__law_odd_recipe := He.keep_ok (c.fact 54),
    k__law_odd_recipes := He.keep_ok (c.fact 55),
    k__law_renamed := He.keep_ok (c.fact 56),
    k__law_shuffled := He.keep_ok (c.fact 57),
    k__law_spoiled := He.keep_ok (c.fact 58),
    k_are_arrows := He.keep_ok (c.fact 59),
    k_are_goals := He.keep_ok (c.fact 60),
    k_are_recipes := He.keep_ok (c.fact 61),
    k_is_between := He.keep_ok (c.fact 62),
    k_is_index := He.keep_ok (c.fact 63),
    k_is_integer := He.keep_ok (c.fact 64),
    k_is_lot := He.keep_ok (c.fact 65),
    k_is_recipe := He.keep_ok (c.fact 66),
    k_kitchen_order := He.keep_ok (c.fact 67),
    k_led_to := He.keep_ok (c.fact 68),
    k_lot_of := He.keep_ok (c.fact 69),
    k_made_from := He.keep_ok (c.fact 70),
    k_mask_of := He.keep_ok (c.fact 71),
    m_Cookery := He.mkr_ok (c.fact 72),
    m_Map := He.mkr_ok (c.fact 73),
    me_Cookery_eq := He.meth_ok (c.fact 74),
    me_Cookery_given := He.meth_ok (c.fact 75),
    me_Cookery_goals := He.meth_ok (c.fact 76),
    me_Cookery_many := He.meth_ok (c.fact 77),
    me_Cookery_parts := He.meth_ok (c.fact 78),
    me_Cookery_recipes := He.meth_ok (c.fact 79),
    me_Map_keep := He.meth_ok (c.fact 80),
    n_abs := He.free_ok X G (c.fact 81),
    n_all := He.free_ok X G (c.fact 82),
    n_any := He.free_ok X G (c.fact 83),
    n_bool := He.free_ok X G (c.fact 84),
    n_enumerate := He.free_ok X G (c.fact 85),
    n_int := He.free_ok X G (c.fact 86),
    n_isinstance := He.free_ok X G (c.fact 87),
    n_len := He.free_ok X G (c.fact 88),
    n_list := He.free_ok X G (c.fact 89),
    n_max := He.free_ok X G (c.fact 90),
    n_min := He.free_ok X G (c.fact 91),
    n_range := He.free_ok X G (c.fact 92),
    n_sorted := He.free_ok X G (c.fact 93),
    n_str := He.free_ok X G (c.fact 94),
    n_tuple := He.free_ok X G (c.fact 95),
    x_NoCookery := exc_txt (d := x_NoCookery) X G rfl (c.exc 0).1 (c.exc 0).2 (c.fact 96) (c.fact 97) ht rfl rfl rfl hf rfl,
    x_NoMap := exc_txt (d := x_NoMap) X G rfl (c.exc 1).1 (c.exc 1).2 (c.fact 98) (c.fact 97) ht rfl rfl rfl hf rfl,
    cook := ⟨He.cls_ok (c.fact 4), He.noat_ok (c.fact 99), He.noat_ok (c.fact 100), He.noat_ok (c.fact 101), He.noat_ok (c.fact 102)⟩,
    map := ⟨He.cls_ok (c.fact 5), He.noat_ok (c.fact 103), He.noat_ok (c.fact 104), He.noat_ok (c.fact 105), He.noat_ok (c.fact 106)⟩,
    law := ⟨⟨He.cls_ok (c.fact 4), z0, z1, z2, z3⟩, ⟨He.cls_ok (c.fact 5), z4, z1, z2, z5⟩, z6, z7, z8, z9, z10, z11⟩,
    d_Cookery_parts := fun_of (c.def_ 0 (d := dd_Cookery_parts)),
    d_Cookery_eq := fun_of (c.def_ 1 (d := dd_Cookery_eq)),
    d_is_integer := fun_of (c.def_ 2 (d := dd_is_integer)),
    d_is_between := fun_of (c.def_ 3 (d := dd_is_between)),
    d_is_index := fun_of (c.def_ 4 (d := dd_is_index)),
    d_is_lot := fun_of (c.def_ 5 (d := dd_is_lot)),
    d_is_recipe := fun_of (c.def_ 6 (d := dd_is_recipe)),
    d_are_recipes := fun_of (c.def_ 7 (d := dd_are_recipes)),
    d_mask_of := fun_of (c.def_ 8 (d := dd_mask_of)),
    d_made_from := fun_of (c.def_ 9 (d := dd_made_from)),
    d_Cookery_init := fun_of (c.def_ 10 (d := dd_Cookery_init)),
    d_Map_keep := fun_of (c.def_ 11 (d := dd_Map_keep)),
    d_are_arrows := fun_of (c.def_ 12 (d := dd_are_arrows)),
    d_lot_of := fun_of (c.def_ 13 (d := dd_lot_of)),
    d_led_to := fun_of (c.def_ 14 (d := dd_led_to)),
    d_are_goals := fun_of (c.def_ 15 (d := dd_are_goals)),
    d_Map_init := fun_of (c.def_ 16 (d := dd_Map_init)),
    d__law_is_number := fun_of (c.def_ 17 (d := dd__law_is_number)),
    d__law_is_lot := fun_of (c.def_ 18 (d := dd__law_is_lot)),
    d__law_is_recipe := fun_of (c.def_ 19 (d := dd__law_is_recipe)),
    d__law_made := fun_of (c.def_ 20 (d := dd__law_made)),
    d__law_bad := fun_of (c.def_ 21 (d := dd__law_bad)),
    d__law_built := fun_of (c.def_ 22 (d := dd__law_built)),
    d__law_draw := fun_of (c.def_ 23 (d := dd__law_draw)),
    d__law_hand := fun_of (c.def_ 24 (d := dd__law_hand)),
    d__law_has_ring := fun_of (c.def_ 25 (d := dd__law_has_ring)),
    d__law_is_order := fun_of (c.def_ 26 (d := dd__law_is_order)),
    d_Cookery_given := fun_of (c.def_ 27 (d := dd_Cookery_given)),
    d_Cookery_goals := fun_of (c.def_ 28 (d := dd_Cookery_goals)),
    d_Cookery_many := fun_of (c.def_ 29 (d := dd_Cookery_many)),
    d_Cookery_recipes := fun_of (c.def_ 30 (d := dd_Cookery_recipes)),
    d__law_keeps := fun_of (c.def_ 31 (d := dd__law_keeps)),
    d__law_needs := fun_of (c.def_ 32 (d := dd__law_needs)),
    d__law_shuffled := fun_of (c.def_ 33 (d := dd__law_shuffled)),
    d__law_renamed := fun_of (c.def_ 34 (d := dd__law_renamed)),
    d__law_kitchen := fun_of (c.def_ 35 (d := dd__law_kitchen)),
    d__law_odd_recipe := fun_of (c.def_ 36 (d := dd__law_odd_recipe)),
    d__law_odd_recipes := fun_of (c.def_ 37 (d := dd__law_odd_recipes)),
    d__law_odd_part := fun_of (c.def_ 38 (d := dd__law_odd_part)),
    d__law_spoiled := fun_of (c.def_ 39 (d := dd__law_spoiled)),
    d_kitchen_order := fun_of (c.def_ 40 (d := dd_kitchen_order)),
    d_law := fun_of (c.def_ 41 (d := dd_law)) }
theorem law_glo {K : PySem.W.Frag} {file : Str} (c : SaysU fas fns exs file moreB K) : (He.Fa.glo "law").ok K = true := (c.fact 107 (f := .glo "law"))
theorem law_def {K : PySem.W.Frag} {file : Str} (c : SaysU fas fns exs file moreB K) : ∃ fd, FunD K "law" "law" (defArgs s_law) (defBody s_law) (defScope s_law) [] [] (He.ga K "law") fd := c.def_ 41 (d := dd_law)
end Un
/-! The head and the end. -/
namespace Un
open PySem L2 PySem.Spec PyProof.Rows
abbrev R : PySem.W.OpenRow := PySem.W.OpenLaw.row PySem.Challenge.rw_untriedways_k86_cookeries_and_their_orde
def file : Str := PySem.Challenge.pw_untriedways_k86_cookeries_and_their_orde.main.file
abbrev hk : PySem.W.Hook := hookU 5 fas fns exs file moreB
def ob (s : PySem.W.SharedT) : AlU := obsUG 5 fas fns exs file moreB (HandSHeadRun.getT s)
theorem ob_eq (s : PySem.W.SharedT) : ob s = hk.obs s.abs := obsUG_eq (HandSHeadRun.getT_eq s)
def loose : List Str := (["WayError", "NoMap", "NoCookery", "is_integer", "is_between", "is_index", "is_lot", "mask_of", "lot_of", "MOST_THINGS", "MOST_RECIPES", "is_recipe", "are_recipes", "made_from", "Cookery", "kitchen_order", "MOST_PLACES", "MOST_ARROWS", "are_arrows", "are_goals", "led_to", "Map", "_law_hand", "_law_draw", "_law_shuffled", "_law_needs", "_law_kitchen", "_law_renamed", "_law_made", "_law_is_number"] : List Str) ++ (["_law_is_lot", "_law_is_recipe", "_law_bad", "_law_odd_recipe", "_law_odd_recipes", "_law_odd_part", "_law_spoiled", "_law_built", "_law_keeps", "_law_has_ring", "_law_is_order"] : List Str)
theorem run (w : World) : HandSHeadRun.RunEq R (PySem.W.view R.prog [46]) hk ob 30000 loose w := by
  intro os
  kernel_rfl
theorem facts {w : World} {K : PySem.W.Frag} {h : Heap} {mg : Str → Option Value} {f : Addr} (X : K.In h) (G : h.Ns mainGlobals mg) (hfa : mg ("law" : Str) = some (.ref f)) (c : SaysU fas fns exs file moreB K) :
    ∃ fd : FuncData, (∀ (s : Shared) (v : Value), BindsTo s fd ⟨[v], []⟩ [("_law_script", v)]) ∧ ∀ base : Heap, K.In base → base.Ns mainGlobals mg → FnOk PySem.Challenge.pw_untriedways_k86_cookeries_and_their_orde w K mg base CX0 10 f fd ["_law_script"] (sp_law K) := by
  have T : Txt PySem.Challenge.pw_untriedways_k86_cookeries_and_their_orde K mg := txt_of X G (by kernel_rfl) (by unfold file; simp) c
  have e := hfa.symm.trans (He.glo_ok X G (x := "law") (law_glo c))
  cases e
  obtain ⟨fd, F⟩ := law_def c
  have b := FunD.bindsA (ps := ["_law_script"]) F fun _ _ _ _ _ _ us hl => match us, hl with | [_], _ => rfl
  refine ⟨fd, fun s v => b s [v] rfl, fun base _ _ => ?_⟩
  have FF : Fun K "law" "law" s_law (He.ga K "law") fd := by
    obtain ⟨⟨oc, od, dV, kV, doc, pm, an, cdv, ct, osl, e, lk, hcd, hD, hK⟩, kp⟩ := F
    rcases hD with ⟨_, rfl⟩ | ⟨z, _⟩
    · exact ⟨⟨oc, od, kV, doc, pm, an, cdv, ct, osl, e, lk, hcd⟩, kp⟩
    · exact absurd rfl z
  exact okf_law FF T
end Un
open PySem PySem.W PySem.Calls PyProof.Rows
theorem PySem.Challenge.cw_untriedways_k86_cookeries_and_their_orde_holds : PySem.Challenge.rw_untriedways_k86_cookeries_and_their_orde.Holds := by
  w_on; o_law
  refine HandSHeadRun.head_any (r := OpenLaw.row PySem.Challenge.rw_untriedways_k86_cookeries_and_their_orde) (q := view (OpenLaw.row PySem.Challenge.rw_untriedways_k86_cookeries_and_their_orde).prog [46]) (H := Un.hk) (ob := Un.ob) (M := 30000) (loose := Un.loose) (d := HandSHeadRun.topDef (OpenLaw.row PySem.Challenge.rw_untriedways_k86_cookeries_and_their_orde).prog 46) (kwd := []) Un.ob_eq
    (by kernel_rfl) (fun s => by kernel_rfl) Un.run (by kernel_rfl) (by kernel_rfl) (by kernel_rfl) (by rfl) (by first | assumption | decide +kernel) (by decide +kernel) ⟨rfl, rfl, rfl, rfl, rfl, by decide +kernel⟩ ?hw ?hc
  case hw => w_witness2
  case hc =>
    refine L2.walk_ofE (l := PySem.Challenge.rw_untriedways_k86_cookeries_and_their_orde) (n := 63) (k := 10) (x := "_law_script") (CX := L2.CX0) rfl (by decide) (by kernel_rfl) ⟨rfl, by decide, by decide⟩ ?F (fun _ _ _ _ z => z)
    intro w mg fa h Y G hmg0
    obtain ⟨K, KX, c⟩ := Y
    have hmg : mg ("law" : PySem.Str) = some (.ref fa) := by
      have e : (HandSHeadRun.topDef (OpenLaw.row PySem.Challenge.rw_untriedways_k86_cookeries_and_their_orde).prog 46).name = ("law" : PySem.Str) := by kernel_rfl
      rw [← e]
      exact hmg0
    obtain ⟨fd, hb, hF⟩ := Un.facts (w := w) KX G hmg c
    exact ⟨K, fd, Un.sp_law K, KX, hb, fun H a ns hl _ hS => ⟨a, ns, rfl, hS, fun _ => rfl⟩, hF⟩
