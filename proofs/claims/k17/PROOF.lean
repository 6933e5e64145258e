import PyProof.Rows.All
import Wide.All
import OpenK.AllK
import Wide.FinOn
import HandS.ForMost
import HandS.Wide
import HandS.IsInst
import HandS.Deep
import HandS.TupAny
import HandS.TupLe
import HandS.Flow
import HandS.Codes
import HandS.Defaults
import HandS.NoneIn
import HandS.MakeKw
import HandS.MakeKwOnly
import HandS.Property
import HandS.TupMul
import HandS.DeepEq
import KE.SortData
import KE.DataMinMax
import KE.DataCmp
import KE.DataFind
import PySem.Challenge.RW_ringloosed_k17_marks_come_home_round_a_r
set_option Elab.async false
set_option linter.all false
set_option autoImplicit false
set_option maxRecDepth 100000
set_option maxHeartbeats 8000000
namespace G4
open PySem L2
/-! ### G4 base: row-independent words -/
theorem hu65 {k : Nat} {A : Around} (hr : Room k A) : A.units + 65 < cLine := by have := hr.un; omega
/-- the tuples stay -/
def Tk (H H' : Hp) : Prop := ∀ b xs, H b = some (.tup xs) → H' b = some (.tup xs)
theorem Tk.refl (H : Hp) : Tk H H := fun _ _ h => h
theorem Tk.trans {H H1 H2 : Hp} (a : Tk H H1) (b : Tk H1 H2) : Tk H H2 := fun c o h => b c o (a c o h)
theorem Tk.new {H : Hp} {p : Addr} {o : HO} (h : H p = none) : Tk H (upd H p o) := fun b xs e => by rw [upd_ne (ne_of_none e h)]; exact e
theorem Tk.put {H : Hp} {p : Addr} {xs : List V} {o : HO} (h : H p = some (.lst xs)) : Tk H (upd H p o) := fun b ys e => by
  rw [upd_ne (ne_of e h (by intro z; cases z))]; exact e
theorem Tk.putI {H : Hp} {p C dx : Addr} {fs : List (Str × V)} {o : HO} (h : H p = some (.ins C dx fs)) : Tk H (upd H p o) := fun b ys e => by
  rw [upd_ne (ne_of e h (by intro z; cases z))]; exact e
theorem Tk.putD {H : Hp} {p : Addr} {kvs : List (Key × V)} {o : HO} (h : H p = some (.dK kvs)) : Tk H (upd H p o) := fun b ys e => by
  rw [upd_ne (ne_of e h (by intro z; cases z))]; exact e
theorem Tk.putT {H : Hp} {p : Addr} {kvs : List (List Key × V)} {o : HO} (h : H p = some (.dT kvs)) : Tk H (upd H p o) := fun b ys e => by
  rw [upd_ne (ne_of e h (by intro z; cases z))]; exact e
theorem Same.tk {H H' : Hp} (s : Same H H') : Tk H H' := fun b xs e => s b _ e
theorem same_new {H : Hp} {p : Addr} {o : HO} (h : H p = none) : Same H (upd H p o) := fun b x e => by rw [upd_ne (ne_of_none e h)]; exact e
theorem get_new {H : Hp} {p a : Addr} {o x : HO} (h : H p = none) (e : H a = some x) : upd H p o a = some x := same_new h a x e
theorem get_ne {H : Hp} {p a : Addr} {o x : HO} (h : a ≠ p) (e : H a = some x) : upd H p o a = some x := by rw [upd_ne h]; exact e
/-! ### data that never changes: none, bools, ints, texts, tuples of them -/
mutual
def Im (H : Hp) : PyData → V → Prop
  | .none, v => v = .non
  | .bool b, v => v = .bl b
  | .int i, v => v = .int i
  | .str x, v => v = .str x
  | .tuple ds, v => ∃ a xs, v = .ref a ∧ H a = some (.tup xs) ∧ ImAll H ds xs
  | .list _, _ => False
  | .dict _, _ => False
def ImAll (H : Hp) : List PyData → List V → Prop
  | [], vs => vs = []
  | d :: ds, vs => ∃ v r, vs = v :: r ∧ Im H d v ∧ ImAll H ds r
end
mutual
theorem Im.mono {H H' : Hp} (t : Tk H H') : ∀ (d : PyData) (v : V), Im H d v → Im H' d v
  | .none, _, h => by simpa only [Im] using h
  | .bool _, _, h => by simpa only [Im] using h
  | .int _, _, h => by simpa only [Im] using h
  | .str _, _, h => by simpa only [Im] using h
  | .tuple ds, v, h => by
    simp only [Im] at h ⊢
    obtain ⟨a, xs, e, ha, hx⟩ := h
    exact ⟨a, xs, e, t _ _ ha, ImAll.mono t ds xs hx⟩
  | .list _, _, h => by simp only [Im] at h
  | .dict _, _, h => by simp only [Im] at h
theorem ImAll.mono {H H' : Hp} (t : Tk H H') : ∀ (ds : List PyData) (vs : List V), ImAll H ds vs → ImAll H' ds vs
  | [], _, h => by simpa only [ImAll] using h
  | d :: ds, vs, h => by
    simp only [ImAll] at h ⊢
    obtain ⟨v, r, e, h1, h2⟩ := h
    exact ⟨v, r, e, Im.mono t d v h1, ImAll.mono t ds r h2⟩
end
mutual
theorem Im.dp {K : PySem.W.Frag} {H : Hp} : ∀ (d : PyData) (v : V), Im H d v → Dp K H v d
  | .none, _, h => by simp only [Im] at h; subst h; exact .non
  | .bool _, _, h => by simp only [Im] at h; subst h; exact .bl _
  | .int _, _, h => by simp only [Im] at h; subst h; exact .int _
  | .str _, _, h => by simp only [Im] at h; subst h; exact .str _
  | .tuple ds, v, h => by
    simp only [Im] at h
    obtain ⟨a, xs, rfl, ha, hx⟩ := h
    exact .tup (SqT.of ha) (ImAll.dp ds xs hx)
  | .list _, _, h => by simp only [Im] at h
  | .dict _, _, h => by simp only [Im] at h
theorem ImAll.dp {K : PySem.W.Frag} {H : Hp} : ∀ (ds : List PyData) (vs : List V), ImAll H ds vs → DpAll K H vs ds
  | [], _, h => by simp only [ImAll] at h; subst h; exact .nil
  | d :: ds, vs, h => by
    simp only [ImAll] at h
    obtain ⟨v, r, rfl, h1, h2⟩ := h
    exact .cons (Im.dp d v h1) (ImAll.dp ds r h2)
end
theorem ImAll.len {H : Hp} : ∀ {ds : List PyData} {vs : List V}, ImAll H ds vs → vs.length = ds.length
  | [], _, h => by simp only [ImAll] at h; subst h; rfl
  | d :: ds, vs, h => by
    simp only [ImAll] at h
    obtain ⟨v, r, rfl, h1, h2⟩ := h
    simp [ImAll.len h2]
theorem ImAll.get {H : Hp} : ∀ {ds : List PyData} {vs : List V} {i : Nat} {v : V}, ImAll H ds vs → vs[i]? = some v → ∃ d, ds[i]? = some d ∧ Im H d v
  | [], _, i, v, h, e => by simp only [ImAll] at h; subst h; simp at e
  | d :: ds, vs, i, v, h, e => by
    simp only [ImAll] at h
    obtain ⟨u, r, rfl, h1, h2⟩ := h
    cases i with
    | zero => simp at e; subst e; exact ⟨d, rfl, h1⟩
    | succ i => simp at e; obtain ⟨x, a, b⟩ := ImAll.get h2 e; exact ⟨x, by simpa using a, b⟩
theorem ImAll.get' {H : Hp} : ∀ {ds : List PyData} {vs : List V} {i : Nat} {d : PyData}, ImAll H ds vs → ds[i]? = some d → ∃ v, vs[i]? = some v ∧ Im H d v
  | [], _, i, v, h, e => by simp at e
  | d :: ds, vs, i, x, h, e => by
    simp only [ImAll] at h
    obtain ⟨u, r, rfl, h1, h2⟩ := h
    cases i with
    | zero => simp at e; subst e; exact ⟨u, rfl, h1⟩
    | succ i => simp at e; obtain ⟨x, a, b⟩ := ImAll.get' h2 e; exact ⟨x, by simpa using a, b⟩
theorem ImAll.snoc {H : Hp} : ∀ {ds : List PyData} {vs : List V} {d : PyData} {v : V}, ImAll H ds vs → Im H d v → ImAll H (ds ++ [d]) (vs ++ [v])
  | [], _, d, v, h, e => by simp only [ImAll] at h; subst h; exact ⟨v, [], rfl, e, by simp only [ImAll]⟩
  | x :: ds, vs, d, v, h, e => by
    simp only [ImAll] at h
    obtain ⟨u, r, rfl, h1, h2⟩ := h
    exact ⟨u, r ++ [v], rfl, h1, ImAll.snoc h2 e⟩
theorem ImAll.app {H : Hp} : ∀ {ds es : List PyData} {vs us : List V}, ImAll H ds vs → ImAll H es us → ImAll H (ds ++ es) (vs ++ us)
  | [], _, _, _, h, e => by simp only [ImAll] at h; subst h; exact e
  | x :: ds, es, vs, us, h, e => by
    simp only [ImAll] at h
    obtain ⟨u, r, rfl, h1, h2⟩ := h
    exact ⟨u, r ++ us, rfl, h1, ImAll.app h2 e⟩
theorem ImAll.take {H : Hp} : ∀ {ds : List PyData} {vs : List V} (n : Nat), ImAll H ds vs → ImAll H (ds.take n) (vs.take n)
  | _, _, 0, _ => by simp only [List.take_zero]; simp only [ImAll]
  | [], _, n + 1, h => by simp only [ImAll] at h; subst h; simp only [List.take_nil]; simp only [ImAll]
  | x :: ds, vs, n + 1, h => by
    simp only [ImAll] at h
    obtain ⟨u, r, rfl, h1, h2⟩ := h
    exact ⟨u, r.take n, rfl, h1, ImAll.take n h2⟩
theorem ImAll.drop {H : Hp} : ∀ {ds : List PyData} {vs : List V} (n : Nat), ImAll H ds vs → ImAll H (ds.drop n) (vs.drop n)
  | _, _, 0, h => h
  | [], _, n + 1, h => by simp only [ImAll] at h; subst h; simp only [List.drop_nil]; simp only [ImAll]
  | x :: ds, vs, n + 1, h => by
    simp only [ImAll] at h
    obtain ⟨u, r, rfl, h1, h2⟩ := h
    exact ImAll.drop n h2
theorem im_nil {H : Hp} : ImAll H [] [] := by simp only [ImAll]
theorem im_cons {H : Hp} {d : PyData} {ds : List PyData} {v : V} {vs : List V} (a : Im H d v) (b : ImAll H ds vs) : ImAll H (d :: ds) (v :: vs) := by
  simp only [ImAll]; exact ⟨v, vs, rfl, a, b⟩
theorem im_tup {H : Hp} {ds : List PyData} {xs : List V} {a : Addr} (h : H a = some (.tup xs)) (i : ImAll H ds xs) : Im H (.tuple ds) (.ref a) := by
  simp only [Im]; exact ⟨a, xs, rfl, h, i⟩
theorem im_tupNew {H : Hp} {ds : List PyData} {xs : List V} {a : Addr} (h : H a = none) (i : ImAll H ds xs) : Im (upd H a (.tup xs)) (.tuple ds) (.ref a) :=
  im_tup upd_same (ImAll.mono (Tk.new h) _ _ i)
theorem im_int {H : Hp} {i : Int} : Im H (.int i) (.int i) := by simp only [Im]
theorem im_str {H : Hp} {x : Str} : Im H (.str x) (.str x) := by simp only [Im]
theorem im_bool {H : Hp} {b : Bool} : Im H (.bool b) (.bl b) := by simp only [Im]
theorem im_non {H : Hp} : Im H .none .non := by simp only [Im]
/-! ### data of bounded nesting, of plain kinds (no bools: they equal ints) -/
mutual
def pl : Nat → PyData → Bool
  | _, .none => true
  | _, .int _ => true
  | _, .str x => PyData.strOk x
  | 0, .tuple _ => false
  | n + 1, .tuple ds => plAll n ds
  | 0, .list _ => false
  | n + 1, .list ds => plAll n ds
  | _, .bool _ => false
  | _, .dict _ => false
def plAll : Nat → List PyData → Bool
  | _, [] => true
  | n, d :: ds => pl n d && plAll n ds
end
theorem plAll_iff {n : Nat} : ∀ {ds : List PyData}, plAll n ds = true ↔ ∀ d ∈ ds, pl n d = true
  | [] => by simp [plAll]
  | d :: ds => by simp only [plAll, Bool.and_eq_true, plAll_iff (ds := ds)]; simp
mutual
theorem pl_lay : ∀ (n : Nat) (d : PyData), pl n d = true → d.canLay0 = true ∧ d.depth ≤ n
  | n, .none, _ => by simp [PyData.canLay0, PyData.depth]
  | n, .int _, _ => by simp [PyData.canLay0, PyData.depth]
  | n, .str x, h => by simp only [pl] at h; simp [PyData.canLay0, PyData.depth, h]
  | 0, .tuple _, h => by simp [pl] at h
  | n + 1, .tuple ds, h => by
    simp only [pl] at h
    have := pl_layAll n ds h
    simp only [PyData.canLay0, PyData.depth]; exact ⟨this.1, by omega⟩
  | 0, .list _, h => by simp [pl] at h
  | n + 1, .list ds, h => by
    simp only [pl] at h
    have := pl_layAll n ds h
    simp only [PyData.canLay0, PyData.depth]; exact ⟨this.1, by omega⟩
  | _, .bool _, h => by simp [pl] at h
  | _, .dict _, h => by simp [pl] at h
theorem pl_layAll : ∀ (n : Nat) (ds : List PyData), plAll n ds = true → PyData.canLayAll0 ds = true ∧ PyData.depthAll ds ≤ n
  | n, [], _ => by simp [PyData.canLayAll0, PyData.depthAll]
  | n, d :: ds, h => by
    simp only [plAll, Bool.and_eq_true] at h
    have h1 := pl_lay n d h.1
    have h2 := pl_layAll n ds h.2
    simp only [PyData.canLayAll0, PyData.depthAll, h1.1, h2.1, Bool.and_self, true_and]; omega
end
theorem pl_shaped {n : Nat} {d : PyData} (h : pl n d = true) (hn : n ≤ 64 := by decide) : SeqAt.shaped d = true := by
  have := pl_lay n d h
  show (d.canLay0 && decide (d.depth ≤ 64)) = true
  rw [this.1, Bool.true_and]; exact decide_eq_true (by omega)
mutual
theorem pl_eqv : ∀ (n m : Nat) (d e : PyData), pl n d = true → pl m e = true → (PyData.eqv d e = true ↔ d = e)
  | n, m, .none, e, h, g => by cases e <;> simp_all [PyData.eqv, pl]
  | n, m, .int i, e, h, g => by cases e <;> simp_all [PyData.eqv, pl]
  | n, m, .str x, e, h, g => by cases e <;> simp_all [PyData.eqv, pl]
  | 0, m, .tuple _, e, h, g => by simp [pl] at h
  | n + 1, m, .tuple ds, e, h, g => by
    cases e with
    | tuple es =>
      cases m with
      | zero => simp [pl] at g
      | succ m =>
        simp only [pl] at h g
        simp only [PyData.eqv, PyData.tuple.injEq]
        exact pl_eqvAll n m ds es h g
    | _ => simp_all [PyData.eqv, pl]
  | 0, m, .list _, e, h, g => by simp [pl] at h
  | n + 1, m, .list ds, e, h, g => by
    cases e with
    | list es =>
      cases m with
      | zero => simp [pl] at g
      | succ m =>
        simp only [pl] at h g
        simp only [PyData.eqv, PyData.list.injEq]
        exact pl_eqvAll n m ds es h g
    | _ => simp_all [PyData.eqv, pl]
  | _, m, .bool _, e, h, g => by simp [pl] at h
  | _, m, .dict _, e, h, g => by simp [pl] at h
theorem pl_eqvAll : ∀ (n m : Nat) (ds es : List PyData), plAll n ds = true → plAll m es = true → (PyData.eqvAll ds es = true ↔ ds = es)
  | n, m, [], es, h, g => by cases es <;> simp [PyData.eqvAll]
  | n, m, d :: ds, es, h, g => by
    cases es with
    | nil => simp [PyData.eqvAll]
    | cons e es =>
      simp only [plAll, Bool.and_eq_true] at h g
      simp only [PyData.eqvAll, Bool.and_eq_true, List.cons.injEq]
      rw [pl_eqv n m d e h.1 g.1, pl_eqvAll n m ds es h.2 g.2]
end
noncomputable instance : DecidableEq PyData := fun a b => Classical.propDecidable (a = b)
theorem pl_eqv_dec {n m : Nat} {d e : PyData} (h : pl n d = true) (g : pl m e = true) : PyData.eqv d e = decide (d = e) := by
  rw [Bool.eq_iff_iff, decide_eq_true_eq]; exact pl_eqv n m d e h g
/-! ### x in t, t a tuple of data of any depth -/
section
variable {X : Cx}
def rInDT (K : PySem.W.Frag) : R2 := fun x y H Q => ∃ d ds, Dp K H x d ∧ Dp K H y (.tuple ds) ∧ SeqAt.shaped d = true ∧ SeqAt.shaped (.tuple ds) = true ∧ Q (.bl (ds.any fun z => PyData.eqv z d)) H
theorem op_inT (hu : X.A.units + 65 < cLine) : OpR X (compareOp .In) (rInDT X.K) := by
  intro pins s σ H x y v u Q I rx ry h
  obtain ⟨d, ds, hd, he, sd, se, q⟩ := h
  obtain ⟨as, r1⟩ := Dp.reads I d x v hd rx
  obtain ⟨bs, r2⟩ := Dp.reads I (.tuple ds) y u he ry
  exact SeqAt.in_tuple_reads r2 r1 (SeqAt.canLay_of_shaped se) (SeqAt.canLay_of_shaped sd) (PyProof.Rows.room_in_shaped sd hu) ⟨.bl _, H, I, rfl, q⟩
end
/-! ### rules over what is tracked alone -/
section
variable {X : Cx}
def rIxLH : R2 := fun x y H Q => ∃ p xs i v, x = .ref p ∧ y = .int i ∧ H p = some (.lst xs) ∧ atI xs i = some v ∧ Q v H
def rIxTH : R2 := fun x y H Q => ∃ p xs i v, x = .ref p ∧ y = .int i ∧ H p = some (.tup xs) ∧ atI xs i = some v ∧ Q v H
theorem ix_listH : IxR X rIxLH := fun value slice pins s σ H x y v u Q I rx ry ⟨p, xs, i, w, h1, h2, h3, h4, h5⟩ hs => ix_list value slice pins s σ H x y v u Q I rx ry ⟨p, xs, i, w, h1, h2, SqL.of h3, h4, h5⟩ hs
theorem ix_tupH : IxR X rIxTH := fun value slice pins s σ H x y v u Q I rx ry ⟨p, xs, i, w, h1, h2, h3, h4, h5⟩ hs => ix_tup value slice pins s σ H x y v u Q I rx ry ⟨p, xs, i, w, h1, h2, SqT.of h3, h4, h5⟩ hs
end
theorem atI0 {α : Type} {x : α} {xs : List α} : atI (x :: xs) 0 = some x := atI_nat (j := 0) rfl
theorem atI1 {α : Type} {x y : α} {xs : List α} : atI (x :: y :: xs) 1 = some y := atI_nat (j := 1) rfl
theorem atI2 {α : Type} {x y z : α} {xs : List α} : atI (x :: y :: z :: xs) 2 = some z := atI_nat (j := 2) rfl
theorem atI3 {α : Type} {x y z t : α} {xs : List α} : atI (x :: y :: z :: t :: xs) 3 = some t := atI_nat (j := 3) rfl
theorem ixN20 : ixN 2 0 = some 0 := by decide
theorem ixN21 : ixN 2 1 = some 1 := by decide
theorem atI_mem {α : Type} {xs : List α} {i : Int} (h0 : 0 ≤ i) (h1 : i < xs.length) : ∃ w, atI xs i = some w ∧ w ∈ xs := by
  obtain ⟨n, rfl⟩ := Int.eq_ofNat_of_zero_le h0
  have hn : n < xs.length := by omega
  exact ⟨xs[n], atI_nat (by simp [hn]), List.getElem_mem hn⟩
theorem tyL {K : PySem.W.Frag} {H : Hp} {p : Addr} {xs : List V} (h : H p = some (.lst xs)) : tyV K "list" (.ref p) H := .inl ⟨rfl, xs, SqL.of h⟩
/-! ### texts -/
theorem join_all {P : Nat → Prop} : ∀ (ys : List Str), (∀ y ∈ ys, ∀ c ∈ y.cps.toList, P c) → ∀ c ∈ (Txt.join ⟨#[]⟩ ys).cps.toList, P c := by
  have h : ∀ (ys : List Str), (∀ y ∈ ys, ∀ c ∈ y.cps.toList, P c) → ∀ c ∈ (Str.join ⟨#[]⟩ ys).cps.toList, P c := by
    intro ys
    induction ys with
    | nil => intro _ c hc; exact absurd hc (by simp [Str.join, Str.empty])
    | cons x r ih =>
      intro hy c hc
      cases r with
      | nil => exact hy x (by simp) c hc
      | cons y r =>
        have e : (Str.join ⟨#[]⟩ (x :: y :: r)).cps.toList = x.cps.toList ++ (Str.join ⟨#[]⟩ (y :: r)).cps.toList := by
          show ((x.cps ++ #[]) ++ (Str.join ⟨#[]⟩ (y :: r)).cps).toList = _
          simp
        rw [e] at hc
        rcases List.mem_append.mp hc with hc | hc
        · exact hy x (by simp) c hc
        · exact ih (fun z hz => hy z (List.mem_cons_of_mem _ hz)) c hc
  intro ys hy
  have e : Txt.join ⟨#[]⟩ ys = Str.join ⟨#[]⟩ ys := StrLaws.glued_eq_join _ _
  rw [e]; exact h ys hy
theorem join_len : ∀ (ys : List Str), (Txt.join ⟨#[]⟩ ys).length = (ys.map (·.length)).sum := by
  have h : ∀ (ys : List Str), (Str.join ⟨#[]⟩ ys).length = (ys.map (·.length)).sum := by
    intro ys
    induction ys with
    | nil => rfl
    | cons x r ih =>
      cases r with
      | nil => show x.length = _; simp
      | cons y r =>
        have e : (Str.join ⟨#[]⟩ (x :: y :: r)).length = x.length + (Str.join ⟨#[]⟩ (y :: r)).length := by
          show ((x.cps ++ #[]) ++ (Str.join ⟨#[]⟩ (y :: r)).cps).size = x.cps.size + (Str.join ⟨#[]⟩ (y :: r)).cps.size
          simp
        rw [e, ih]; simp
  intro ys
  have e : Txt.join ⟨#[]⟩ ys = Str.join ⟨#[]⟩ ys := StrLaws.glued_eq_join _ _
  rw [e]; exact h ys
/-- a name: 1 to 12 signs a to z -/
def NameD (x : Str) : Prop := 1 ≤ x.length ∧ x.length ≤ 12 ∧ ∀ c ∈ x.cps.toList, 97 ≤ c ∧ c ≤ 122
theorem NameD.ok {x : Str} (h : NameD x) : PyData.strOk x = true := by
  unfold PyData.strOk
  rw [Array.all_eq_true_iff_forall_mem]
  intro c hc
  have := h.2.2 c (by simpa using hc)
  exact decide_eq_true (by omega)
theorem nameD_by {x : Str} (h : (decide (1 ≤ x.length) && decide (x.length ≤ 12) && x.cps.toList.all fun c => decide (97 ≤ c) && decide (c ≤ 122)) = true) : NameD x := by
  simp only [Bool.and_eq_true, decide_eq_true_eq, List.all_eq_true] at h
  exact ⟨h.1.1, h.1.2, fun c hc => h.2 c hc⟩
/-! ### loops: the reading's own words, folded -/
def Loop (J : It) (g : TG) (tb : TS) (D : Ends) (σ : St) (H : Hp) : Prop := ∃ W : Nat → Nat → St → Hp → Prop, (∃ m, W 0 m σ H) ∧ ∀ i m σ H, W i m σ H →
  (J.stop i H ∧ D.nx σ H) ∨ (J.go i H ∧ ∃ N : St → Hp → Prop, (∀ σ' H', N σ' H' → ∃ m', m' < m ∧ W (i + 1) m' σ' H') ∧ ∀ x H', J.yld i H x H' → g x σ H' fun σ2 H2 => tb { D with nx := N, ct := N, bk := D.nx } σ2 H2)
theorem tFor_eq (wi : TI) (g : TG) (tb : TS) (D : Ends) (σ : St) (H : Hp) : tFor wi g tb D σ H = wi σ H (fun J H1 => Loop J g tb D σ H1) := rfl
theorem Loop.range {lo : Int} {n : Nat} {g : TG} {tb : TS} {D : Ends} {σ : St} {H : Hp} (Pv : Nat → St → Hp → Prop) (h0 : Pv 0 σ H)
    (hs : ∀ i σ H, i < n → Pv i σ H → g (.int (lo + i)) σ H fun σ2 H2 => tb { D with nx := Pv (i + 1), ct := Pv (i + 1), bk := D.nx } σ2 H2) (hd : ∀ σ H, Pv n σ H → D.nx σ H) : Loop (Itr lo n) g tb D σ H := for_range Pv h0 hs hd
theorem Loop.list {K : PySem.W.Frag} {a : Addr} {g : TG} {tb : TS} {D : Ends} {σ : St} {H : Hp} (xs : List V) (Pv : Nat → St → Hp → Prop) (h0 : Pv 0 σ H) (hl : ∀ i σ H, i ≤ xs.length → Pv i σ H → SqL K H a xs)
    (hs : ∀ i x σ H, xs[i]? = some x → Pv i σ H → g x σ H fun σ2 H2 => tb { D with nx := Pv (i + 1), ct := Pv (i + 1), bk := D.nx } σ2 H2) (hd : ∀ σ H, Pv xs.length σ H → D.nx σ H) : Loop (Itl K a) g tb D σ H := for_list Pv h0 hl hs hd
theorem Loop.tup {K : PySem.W.Frag} {a : Addr} {g : TG} {tb : TS} {D : Ends} {σ : St} {H : Hp} (xs : List V) (Pv : Nat → St → Hp → Prop) (h0 : Pv 0 σ H) (hl : ∀ i σ H, i ≤ xs.length → Pv i σ H → SqT K H a xs)
    (hs : ∀ i x σ H, xs[i]? = some x → Pv i σ H → g x σ H fun σ2 H2 => tb { D with nx := Pv (i + 1), ct := Pv (i + 1), bk := D.nx } σ2 H2) (hd : ∀ σ H, Pv xs.length σ H → D.nx σ H) : Loop (Itt K a) g tb D σ H := for_tup Pv h0 hl hs hd
def Lcl (J : It) (g : TG) (tt : TT) (te : TE) (vs : List Nat) (σ : St) (D : Addr) (H : Hp) (Q : Hp → Prop) : Prop := ∃ W : Nat → Nat → Hp → Prop, (∃ m, W 0 m (upd H D (.lst []))) ∧ ∀ i m H, W i m H →
  (J.stop i H ∧ Q H) ∨ (J.go i H ∧ ∃ Nx : Hp → Prop, (∀ H', Nx H' → ∃ m', m' < m ∧ W (i + 1) m' H') ∧ ∀ x H', J.yld i H x H' → g x (wipe σ vs) H' fun σ2 H2 => wipe σ2 vs = wipe σ vs ∧ tt σ2 H2 fun b H3 =>
    if b = true then te σ2 H3 fun y H4 => ∃ acc, H4 D = some (.lst acc) ∧ acc.length < sizeLine ∧ Nx (upd H4 D (.lst (acc ++ [y]))) else Nx H3)
theorem tLc_eq (wi : TI) (g : TG) (tt : TT) (te : TE) (vs : List Nat) (σ : St) (H : Hp) (Q : VK) : tLc wi g tt te vs σ H Q = wi σ H (fun J H1 => ∀ D, H1 D = none → Lcl J g tt te vs σ D H1 (fun H2 => Q (.ref D) H2)) := rfl
theorem Lcl.range {lo : Int} {n : Nat} {g : TG} {tt : TT} {te : TE} {vs : List Nat} {σ : St} {H1 : Hp} {D : Addr} {Qd : Hp → Prop} (Pv : Nat → Hp → Prop) (h0 : Pv 0 (upd H1 D (.lst [])))
    (hs : ∀ i H, i < n → Pv i H → g (.int (lo + i)) (wipe σ vs) H fun σ2 H2 => wipe σ2 vs = wipe σ vs ∧ tt σ2 H2 fun b H3 =>
      if b = true then te σ2 H3 fun y H4 => ∃ acc, H4 D = some (.lst acc) ∧ acc.length < sizeLine ∧ Pv (i + 1) (upd H4 D (.lst (acc ++ [y]))) else Pv (i + 1) H3) (hd : ∀ H, Pv n H → Qd H) : Lcl (Itr lo n) g tt te vs σ D H1 Qd := lc_range Pv h0 hs hd
theorem Lcl.list {K : PySem.W.Frag} {a : Addr} {g : TG} {tt : TT} {te : TE} {vs : List Nat} {σ : St} {H1 : Hp} {D : Addr} {Qd : Hp → Prop} (xs : List V) (Pv : Nat → Hp → Prop) (h0 : Pv 0 (upd H1 D (.lst []))) (hl : ∀ i H, i ≤ xs.length → Pv i H → SqL K H a xs)
    (hs : ∀ i x H, xs[i]? = some x → Pv i H → g x (wipe σ vs) H fun σ2 H2 => wipe σ2 vs = wipe σ vs ∧ tt σ2 H2 fun b H3 =>
      if b = true then te σ2 H3 fun y H4 => ∃ acc, H4 D = some (.lst acc) ∧ acc.length < sizeLine ∧ Pv (i + 1) (upd H4 D (.lst (acc ++ [y]))) else Pv (i + 1) H3) (hd : ∀ H, Pv xs.length H → Qd H) : Lcl (Itl K a) g tt te vs σ D H1 Qd := lc_list Pv h0 hl hs hd
theorem Lcl.tup {K : PySem.W.Frag} {a : Addr} {g : TG} {tt : TT} {te : TE} {vs : List Nat} {σ : St} {H1 : Hp} {D : Addr} {Qd : Hp → Prop} (xs : List V) (Pv : Nat → Hp → Prop) (h0 : Pv 0 (upd H1 D (.lst []))) (hl : ∀ i H, i ≤ xs.length → Pv i H → SqT K H a xs)
    (hs : ∀ i x H, xs[i]? = some x → Pv i H → g x (wipe σ vs) H fun σ2 H2 => wipe σ2 vs = wipe σ vs ∧ tt σ2 H2 fun b H3 =>
      if b = true then te σ2 H3 fun y H4 => ∃ acc, H4 D = some (.lst acc) ∧ acc.length < sizeLine ∧ Pv (i + 1) (upd H4 D (.lst (acc ++ [y]))) else Pv (i + 1) H3) (hd : ∀ H, Pv xs.length H → Qd H) : Lcl (Itt K a) g tt te vs σ D H1 Qd := lc_tup Pv h0 hl hs hd
/-! ### the drawn stream of a law -/
/-- at p a list of two ints -/
def St2 (H : Hp) (p : Addr) : Prop := ∃ d r : Int, H p = some (.lst [.int d, .int r])
/-- a generator ran: the stream at p may have gone on, all else is as it was, new things may stand -/
structure Gn (p : Addr) (H H' : Hp) : Prop where
  st0 : St2 H p
  st : St2 H' p
  but : ∀ b o, H b = some o → b ≠ p → H' b = some o
theorem Gn.tk {p : Addr} {H H' : Hp} (g : Gn p H H') : Tk H H' := fun b xs e => by
  obtain ⟨d, r, h⟩ := g.st0
  exact g.but b _ e (ne_of e h (by intro z; cases z))
theorem Gn.refl {p : Addr} {H : Hp} (h : St2 H p) : Gn p H H := ⟨h, h, fun _ _ e _ => e⟩
theorem Gn.trans {p : Addr} {H H1 H2 : Hp} (a : Gn p H H1) (b : Gn p H1 H2) : Gn p H H2 := ⟨a.st0, b.st, fun c o e n => b.but c o (a.but c o e n) n⟩
theorem St2.new {p q : Addr} {H : Hp} {o : HO} (h : St2 H p) (hq : H q = none) : St2 (upd H q o) p := by
  obtain ⟨d, r, e⟩ := h; exact ⟨d, r, get_new hq e⟩
theorem St2.ne {p q : Addr} {H : Hp} {o : HO} (h : St2 H p) (hq : q ≠ p) : St2 (upd H q o) p := by
  obtain ⟨d, r, e⟩ := h; exact ⟨d, r, get_ne hq.symm e⟩
theorem St2.nn {p q : Addr} {H : Hp} (h : St2 H p) (hq : H q = none) : q ≠ p := by
  obtain ⟨d, r, e⟩ := h; exact (ne_of_none e hq).symm
theorem Gn.new {p q : Addr} {H H1 : Hp} {o : HO} (a : Gn p H H1) (hq : H1 q = none) : Gn p H (upd H1 q o) :=
  ⟨a.st0, a.st.new hq, fun c x e n => get_new hq (a.but c x e n)⟩
/-- a list that the generator made is changed -/
theorem Gn.put {p q : Addr} {H H1 : Hp} {o : HO} (a : Gn p H H1) (hq : H q = none) (hn : q ≠ p) : Gn p H (upd H1 q o) :=
  ⟨a.st0, a.st.ne hn, fun c x e n => get_ne (ne_of_none e hq) (a.but c x e n)⟩
theorem Gn.none {p q : Addr} {H H' : Hp} (g : Gn p H H') (h : H' q = none) : H q = none := by
  cases e : H q with
  | none => rfl
  | some o =>
    by_cases hq : q = p
    · subst hq; obtain ⟨d, r, z⟩ := g.st; rw [h] at z; cases z
    · rw [g.but q o e hq] at h; cases h
theorem Gn.im {p : Addr} {H H' : Hp} (g : Gn p H H') {d : PyData} {v : V} (h : Im H d v) : Im H' d v := Im.mono g.tk d v h
theorem Gn.upd {p : Addr} {H : Hp} {d r : Int} (h : St2 H p) : Gn p H (upd H p (.lst [.int d, .int r])) := ⟨h, ⟨d, r, upd_same⟩, fun b o e n => get_ne n e⟩
theorem imNew {H : Hp} {q : Addr} {o : HO} {d : PyData} {v : V} (hq : H q = none) (h : Im H d v) : Im (upd H q o) d v := Im.mono (Tk.new hq) d v h
theorem cmulR {i j : Int} (h : (decide (-(2 ^ 64) < j) && decide (j < 2 ^ 64)) = true) : CMul i j := by
  simp only [Bool.and_eq_true, decide_eq_true_eq] at h; exact .inr h
theorem cmulL {i j : Int} (h : -(2 ^ 64) < i ∧ i < 2 ^ 64) : CMul i j := .inl h
theorem abc26 : (Str.ofString "abcdefghijklmnopqrstuvwxyz").cps.toList = (List.range 26).map (97 + ·) := by decide +kernel
theorem abc26_len : (Str.ofString "abcdefghijklmnopqrstuvwxyz").length = 26 := by decide +kernel
theorem abc26_at {v : Int} (h0 : 0 ≤ v) (h1 : v < 26) : ∃ c, atI (Str.ofString "abcdefghijklmnopqrstuvwxyz").cps.toList v = some c ∧ 97 ≤ c ∧ c ≤ 122 := by
  rw [abc26]
  obtain ⟨c, hc, hm⟩ := atI_mem (xs := (List.range 26).map (97 + ·)) h0 (by simpa using h1)
  refine ⟨c, hc, ?_⟩
  simp only [List.mem_map, List.mem_range] at hm
  omega
theorem empty_str : Str.ofString "" = ⟨#[]⟩ := by decide +kernel
theorem sum_ones : ∀ {ys : List Str}, (∀ y ∈ ys, y.length = 1) → (ys.map (·.length)).sum = ys.length
  | [], _ => rfl
  | y :: ys, h => by
    have h1 := h y (by simp)
    have h2 := sum_ones (ys := ys) fun z hz => h z (List.mem_cons_of_mem _ hz)
    simp only [List.map_cons, List.sum_cons, List.length_cons, h1, h2]; omega
theorem Gn.at {p q : Addr} {H H' : Hp} {o : HO} (g : Gn p H H') (h : H q = some o) (hn : q ≠ p) : H' q = some o := g.but q o h hn

/-! ### rules whose new thing may be an old one -/
section
variable {X : Cx}
theorem cutV_whole {xs : List V} {lo hi : Option Int} (h : HT.sIx xs.length 0 lo = 0 ∧ HT.sIx xs.length xs.length hi = xs.length) : cutV xs lo hi = xs := by
  unfold cutV; rw [h.1, h.2]; simp
theorem cutV_to (xs : List V) (k : Nat) : cutV xs none (some (k : Int)) = xs.take k := by
  unfold cutV
  rw [HT.sIx_none, HT.sIx_nat, List.drop_zero, Nat.sub_zero]
  by_cases h : k ≤ xs.length
  · rw [Nat.min_eq_left h]
  · rw [Nat.min_eq_right (by omega), List.take_length, List.take_of_length_le (by omega)]
theorem cutV_from (xs : List V) (k : Nat) : cutV xs (some (k : Int)) none = xs.drop k := by
  unfold cutV
  rw [HT.sIx_none, HT.sIx_nat]
  by_cases h : k ≤ xs.length
  · rw [Nat.min_eq_left h, List.take_of_length_le (by rw [List.length_drop]; omega)]
  · rw [Nat.min_eq_right (by omega), List.drop_length, List.drop_of_length_le (by omega)]; simp
def rSlTS : V → Option Int → Option Int → Hp → VK → Prop := fun x lo hi H Q => ∃ a xs, x = .ref a ∧ H a = some (.tup xs) ∧ ∀ p H', Same H H' → H' p = some (.tup (cutV xs lo hi)) → Q (.ref p) H'
theorem sl_tupS : SlR X rSlTS := fun pins s σ H x v vl vu lo hi sl Q I rx hs pl pu ⟨a, xs, h1, h2, h3⟩ =>
  sl_tupA pins s σ H x v vl vu lo hi sl Q I rx hs pl pu ⟨a, xs, h1, SqT.of h2, fun hw => h3 a H (Same.refl H) (by rw [cutV_whole hw]; exact h2), fun _ p hp => h3 p _ (same_new hp) upd_same⟩
def rCatS : R2 := fun x y H Q => ∃ a b xs ys, x = .ref a ∧ y = .ref b ∧ H a = some (.tup xs) ∧ H b = some (.tup ys) ∧ xs.length + ys.length ≤ sizeLine ∧ ∀ p H', Same H H' → H' p = some (.tup (xs ++ ys)) → Q (.ref p) H'
theorem op_catS : OpR X (binaryOp .Add) rCatS := fun pins s σ H x y v u Q I rx ry ⟨a, b, xs, ys, h1, h2, h3, h4, h5, h6⟩ =>
  op_catA pins s σ H x y v u Q I rx ry ⟨a, b, xs, ys, h1, h2, SqT.of h3, SqT.of h4, h5, fun e => h6 b H (Same.refl H) (by rw [e]; exact h4), fun _ e => h6 a H (Same.refl H) (by rw [e, List.append_nil]; exact h3), fun _ _ p hp => h6 p _ (same_new hp) upd_same⟩
def rTupS : List V → Hp → VK → Prop := fun xs H Q => ∃ p ys, xs = [.ref p] ∧ (H p = some (.lst ys) ∨ H p = some (.tup ys)) ∧ ∀ l H', Same H H' → H' l = some (.tup ys) → Q (.ref l) H'
theorem call_tupS : CallR X (.type "tuple") rTupS := fun pins s σ H xs us Q I r ⟨p, ys, h1, h2, h3⟩ =>
  call_tuple_of pins s σ H xs us Q I r ⟨p, ys, h1, h2.elim (fun h => .inl ⟨SqL.of h, fun l hl => h3 l _ (same_new hl) upd_same⟩) fun h => .inr ⟨SqT.of h, h3 p H (Same.refl H) h⟩⟩
def tyO : Option HO → Option String
  | some (.lst _) => some "list"
  | some (.tup _) => some "tuple"
  | some (.dK _) => some "dict"
  | some (.dT _) => some "dict"
  | _ => none
/-- the built-in type's name of a value -/
def tyS (H : Hp) : V → Option String
  | .non => some "NoneType"
  | .bl _ => some "bool"
  | .int _ => some "int"
  | .str _ => some "str"
  | .ref a => tyO (H a)
  | _ => none
theorem tyS_non {H : Hp} : tyS H .non = some "NoneType" := rfl
theorem tyS_bl {H : Hp} {b : Bool} : tyS H (.bl b) = some "bool" := rfl
theorem tyS_int {H : Hp} {b : Int} : tyS H (.int b) = some "int" := rfl
theorem tyS_str {H : Hp} {b : Str} : tyS H (.str b) = some "str" := rfl
theorem tyS_ref {H : Hp} {a : Addr} : tyS H (.ref a) = tyO (H a) := rfl
theorem tyO_l {xs : List V} : tyO (some (.lst xs)) = some "list" := rfl
theorem tyO_t {xs : List V} : tyO (some (.tup xs)) = some "tuple" := rfl
theorem tyO_d {xs : List (Key × V)} : tyO (some (.dK xs)) = some "dict" := rfl
theorem tyO_dt {xs : List (List Key × V)} : tyO (some (.dT xs)) = some "dict" := rfl
theorem tyS_x {K : PySem.W.Frag} {H : Hp} {x : V} {t : String} (h : tyS H x = some t) : TyX K H x (.type t) := by
  cases x with
  | non => cases h; exact .base .non
  | bl b => cases h; exact .base (.bl b)
  | int i => cases h; exact .base (.int i)
  | str x => cases h; exact .base (.str x)
  | ref a =>
    rw [tyS_ref] at h
    cases e : H a with
    | none => rw [e] at h; cases h
    | some o =>
      rw [e] at h
      cases o with
      | lst xs => cases h; exact .base (.lst e)
      | tup xs => cases h; exact .base (.tup e)
      | dK kvs => cases h; exact .base (.dK e)
      | dT kvs => cases h; exact .base (.dT e)
      | _ => cases h
  | _ => cases h
def rIsiH : List V → Hp → VK → Prop := fun xs H Q => ∃ (x : V) (n t : String) (b : Bool), xs = [x, .ty n] ∧ tyS H x = some t ∧ kitB t n = some b ∧ Q (.bl b) H
theorem call_isiH : CallR X (.builtin "isinstance") rIsiH := fun pins s σ H xs us Q I r ⟨x, n, t, b, h1, h2, h3, h4⟩ =>
  call_isi pins s σ H xs us Q I r ⟨x, .ty n, .type t, .type n, b, h1, .ty n, tyS_x h2, kit_ty h3, h4⟩
end
theorem kit_ll : kitB "list" "list" = some true := by decide +kernel
theorem kit_tt : kitB "tuple" "tuple" = some true := by decide +kernel
theorem kit_bb : kitB "bool" "bool" = some true := by decide +kernel
theorem kit_ii : kitB "int" "int" = some true := by decide +kernel
theorem kit_ib : kitB "int" "bool" = some false := by decide +kernel
theorem kit_bi : kitB "bool" "int" = some true := by decide +kernel
theorem kit_nt : kitB "NoneType" "tuple" = some false := by decide +kernel
theorem kit_it : kitB "int" "tuple" = some false := by decide +kernel
theorem kit_st : kitB "str" "tuple" = some false := by decide +kernel
theorem kit_bt : kitB "bool" "tuple" = some false := by decide +kernel
theorem kit_lt : kitB "list" "tuple" = some false := by decide +kernel
theorem kit_dt : kitB "dict" "tuple" = some false := by decide +kernel
theorem kit_ni : kitB "NoneType" "int" = some false := by decide +kernel
theorem kit_si : kitB "str" "int" = some false := by decide +kernel
theorem kit_ti : kitB "tuple" "int" = some false := by decide +kernel
theorem kit_li : kitB "list" "int" = some false := by decide +kernel
theorem kit_di : kitB "dict" "int" = some false := by decide +kernel
theorem kit_nb : kitB "NoneType" "bool" = some false := by decide +kernel
theorem kit_ns : kitB "NoneType" "str" = some false := by decide +kernel
theorem kit_is : kitB "int" "str" = some false := by decide +kernel
theorem kit_bs : kitB "bool" "str" = some false := by decide +kernel
theorem kit_ss : kitB "str" "str" = some true := by decide +kernel
theorem kit_ts : kitB "tuple" "str" = some false := by decide +kernel
theorem kit_ls : kitB "list" "str" = some false := by decide +kernel
theorem kit_ds : kitB "dict" "str" = some false := by decide +kernel
theorem kit_dd : kitB "dict" "dict" = some true := by decide +kernel
theorem Gn.same {p : Addr} {H H1 H2 : Hp} (g : Gn p H H1) (s : Same H1 H2) : Gn p H H2 :=
  ⟨g.st0, by obtain ⟨d, r, h⟩ := g.st; exact ⟨d, r, s _ _ h⟩, fun b o e n => s _ _ (g.but b o e n)⟩
theorem St2.same {p : Addr} {H1 H2 : Hp} (g : St2 H1 p) (s : Same H1 H2) : St2 H2 p := by obtain ⟨d, r, h⟩ := g; exact ⟨d, r, s _ _ h⟩
theorem Same.im {H H' : Hp} (s : Same H H') {d : PyData} {v : V} (h : Im H d v) : Im H' d v := Im.mono (Same.tk s) d v h
theorem Same.ims {H H' : Hp} (s : Same H H') {d : List PyData} {v : List V} (h : ImAll H d v) : ImAll H' d v := ImAll.mono (Same.tk s) d v h
theorem Gn.ims {p : Addr} {H H' : Hp} (g : Gn p H H') {d : List PyData} {v : List V} (h : ImAll H d v) : ImAll H' d v := ImAll.mono g.tk d v h
theorem imsNew {H : Hp} {q : Addr} {o : HO} {d : List PyData} {v : List V} (hq : H q = none) (h : ImAll H d v) : ImAll (upd H q o) d v := ImAll.mono (Tk.new hq) d v h
theorem im_tupE {H : Hp} {ds : List PyData} {v : V} (h : Im H (.tuple ds) v) : ∃ a xs, v = .ref a ∧ H a = some (.tup xs) ∧ ImAll H ds xs := by simpa only [Im] using h
theorem imAll_mem {H : Hp} {P : PyData → Prop} {ds : List PyData} {vs : List V} {i : Nat} {v : V} (h : ImAll H ds vs) (hP : ∀ d ∈ ds, P d) (e : vs[i]? = some v) : ∃ d, ds[i]? = some d ∧ P d ∧ Im H d v := by
  obtain ⟨d, e1, e2⟩ := h.get e
  exact ⟨d, e1, hP d (List.mem_of_getElem? e1), e2⟩
theorem imPut {H : Hp} {q : Addr} {xs : List V} {o : HO} {d : PyData} {v : V} (hq : H q = some (.lst xs)) (h : Im H d v) : Im (upd H q o) d v := Im.mono (Tk.put hq) d v h
theorem imsPut {H : Hp} {q : Addr} {xs : List V} {o : HO} {d : List PyData} {v : List V} (hq : H q = some (.lst xs)) (h : ImAll H d v) : ImAll (upd H q o) d v := ImAll.mono (Tk.put hq) d v h
/-- a list of such data grows by one -/
theorem ims_app {H : Hp} {l : Addr} {vs : List V} {ds : List PyData} {v : V} {d : PyData} (hl : H l = some (.lst vs)) (h : ImAll H ds vs) (hd : Im H d v) : ImAll (upd H l (.lst (vs ++ [v]))) (ds ++ [d]) (vs ++ [v]) := imsPut hl (h.snoc hd)
theorem all_snoc {α : Type} {P : α → Prop} {xs : List α} {x : α} (h : ∀ y ∈ xs, P y) (hx : P x) : ∀ y ∈ xs ++ [x], P y := by
  intro y hy
  rcases List.mem_append.mp hy with hy | hy
  · exact h y hy
  · rw [List.mem_singleton] at hy; subst hy; exact hx
section
variable {X : Cx} {K : PySem.W.Frag}
theorem op_eqDK (hK : X.K = K) (hu : X.A.units + 64 < cLine) : OpR X (compareOp .Eq) (rEqD K) := by subst hK; exact op_eqD hu
theorem op_neDK (hK : X.K = K) (hu : X.A.units + 64 < cLine) : OpR X (compareOp .NotEq) (rNeD K) := by subst hK; exact op_neD hu
theorem op_inDK (hK : X.K = K) (hu : X.A.units + 65 < cLine) : OpR X (compareOp .In) (rInD K) := by subst hK; exact op_inD hu
theorem op_notInDK (hK : X.K = K) (hu : X.A.units + 65 < cLine) : OpR X (compareOp .NotIn) (rNotInD K) := by subst hK; exact op_notInD hu
theorem op_inTK (hK : X.K = K) (hu : X.A.units + 65 < cLine) : OpR X (compareOp .In) (rInDT K) := by subst hK; exact op_inT hu
end
def lenO : Option HO → Option Nat
  | some (.lst xs) => some xs.length
  | some (.tup xs) => some xs.length
  | _ => none
def lenS (H : Hp) : V → Option Nat
  | .str y => if y.length ≤ sizeLine then some y.length else none
  | .ref p => lenO (H p)
  | _ => none
theorem lenO_l {xs : List V} : lenO (some (.lst xs)) = some xs.length := rfl
theorem lenO_t {xs : List V} : lenO (some (.tup xs)) = some xs.length := rfl
theorem lenS_ref {H : Hp} {p : Addr} : lenS H (.ref p) = lenO (H p) := rfl
theorem lenS_str {H : Hp} {y : Str} (h : y.length ≤ 16777216) : lenS H (.str y) = some y.length := by simp only [lenS]; rw [if_pos (by rw [sizeLine_eq]; exact h)]
theorem lenS_v {K : PySem.W.Frag} {H : Hp} {x : V} {n : Nat} (h : lenS H x = some n) : LenV K x H n := by
  cases x with
  | str y =>
    simp only [lenS] at h
    split at h
    · cases h; exact ⟨by assumption, rfl⟩
    · cases h
  | ref a =>
    rw [lenS_ref] at h
    cases e : H a with
    | none => rw [e] at h; cases h
    | some o =>
      rw [e] at h
      cases o with
      | lst xs => cases h; exact .inl ⟨xs, SqL.of e, rfl⟩
      | tup xs => cases h; exact .inr ⟨xs, SqT.of e, rfl⟩
      | _ => cases h
  | _ => cases h
section
variable {X : Cx}
def rLenS : List V → Hp → VK → Prop := fun xs H Q => ∃ (x : V) (n : Nat), xs = [x] ∧ lenS H x = some n ∧ Q (.int n) H
theorem call_lenS : CallR X (.builtin "len") rLenS := fun pins s σ H xs us Q I r ⟨x, n, h1, h2, h3⟩ => call_len pins s σ H xs us Q I r ⟨x, n, h1, lenS_v h2, h3⟩
end
theorem cutI {t u : TS} {D : Ends} {σ : St} {H : Hp} (Mid : St → Hp → Prop) (h1 : t { D with nx := Mid } σ H) (h2 : ∀ σ' H', Mid σ' H' → u D σ' H') : C8.tCut t u D σ H := ⟨Mid, h1, h2⟩
theorem upd_none {H : Hp} {p q : Addr} {o : HO} (h : upd H p o q = none) : q ≠ p ∧ H q = none := by
  by_cases e : q = p
  · subst e; rw [upd_same] at h; cases h
  · rw [upd_ne e] at h; exact ⟨e, h⟩
theorem imIns {H : Hp} {p C dx : Addr} {fs : List (Str × V)} {o : HO} {d : PyData} {v : V} (hp : H p = some (.ins C dx fs)) (h : Im H d v) : Im (upd H p o) d v := Im.mono (Tk.putI hp) d v h
theorem imsIns {H : Hp} {p C dx : Addr} {fs : List (Str × V)} {o : HO} {d : List PyData} {v : List V} (hp : H p = some (.ins C dx fs)) (h : ImAll H d v) : ImAll (upd H p o) d v := ImAll.mono (Tk.putI hp) d v h
theorem imDk {H : Hp} {p : Addr} {fs : List (Key × V)} {o : HO} {d : PyData} {v : V} (hp : H p = some (.dK fs)) (h : Im H d v) : Im (upd H p o) d v := Im.mono (Tk.putD hp) d v h
theorem imsDk {H : Hp} {p : Addr} {fs : List (Key × V)} {o : HO} {d : List PyData} {v : List V} (hp : H p = some (.dK fs)) (h : ImAll H d v) : ImAll (upd H p o) d v := ImAll.mono (Tk.putD hp) d v h
theorem ne_il {H : Hp} {p l C dx : Addr} {fs : List (Str × V)} {ws : List V} (hp : H p = some (.ins C dx fs)) (hl : H l = some (.lst ws)) : p ≠ l := ne_of hp hl (by intro z; cases z)
theorem ne_it {H : Hp} {p l C dx : Addr} {fs : List (Str × V)} {ws : List V} (hp : H p = some (.ins C dx fs)) (hl : H l = some (.tup ws)) : p ≠ l := ne_of hp hl (by intro z; cases z)
theorem ne_dl {H : Hp} {p l : Addr} {fs : List (Key × V)} {ws : List V} (hp : H p = some (.dK fs)) (hl : H l = some (.lst ws)) : p ≠ l := ne_of hp hl (by intro z; cases z)
theorem ne_id {H : Hp} {p l C dx : Addr} {fs : List (Str × V)} {ws : List (Key × V)} (hp : H p = some (.ins C dx fs)) (hl : H l = some (.dK ws)) : p ≠ l := ne_of hp hl (by intro z; cases z)
section
variable {X : Cx} {pos : Pos}
def gTupH (n : Nat) (t : TGs) : TG := fun v σ H Q => ∃ a xs, v = .ref a ∧ H a = some (.tup xs) ∧ xs.length = n ∧ t xs σ H Q
theorem pg_tupH {es : List Expr} {k : Nat} {t : TGs} (n : Nat) (hc : X.calm = true) (h : PGs X es t)
    (hn : (assignEach es X.env).length = n := by rfl) (hst : (assignEach es X.env).findIdx? (·.1) = none := by rfl) : PG X (.Tuple es k pos) (gTupH n t) :=
  ⟨fun pins s σ H v u Q I r ⟨a, xs, h1, h2, h3, h4⟩ => (pg_tup hc h hn hst).run pins s σ H v u Q I r ⟨a, xs, h1, SqT.of h2, h3, h4⟩⟩
def gUnlH (n : Nat) (t : TGs) : TG := fun v σ H Q => ∃ a xs, v = .ref a ∧ H a = some (.lst xs) ∧ xs.length = n ∧ t xs σ H Q
theorem pg_unlH {es : List Expr} {k : Nat} {t : TGs} (n : Nat) (hc : X.calm = true) (h : PGs X es t)
    (hn : (assignEach es X.env).length = n := by rfl) (hst : (assignEach es X.env).findIdx? (·.1) = none := by rfl) : PG X (.Tuple es k pos) (gUnlH n t) :=
  ⟨fun pins s σ H v u Q I r ⟨a, xs, h1, h2, h3, h4⟩ => (pg_unl hc h hn hst).run pins s σ H v u Q I r ⟨a, xs, h1, SqL.of h2, h3, h4⟩⟩
end
/-! ### the drawn data -/
def kD (h : Int) (n : Str) : PyData := .tuple [.int h, .str n]
def KeyD (d : PyData) : Prop := ∃ h n, d = kD h n ∧ 0 ≤ h ∧ h ≤ 1000000000000 ∧ NameD n
theorem KeyD.pl {d : PyData} (h : KeyD d) : pl 1 d = true := by
  obtain ⟨a, b, rfl, _, _, n⟩ := h
  simp [kD, G4.pl, plAll, n.ok]
/-- a step of a program -/
def StepD (d : PyData) : Prop := ∃ k, KeyD k ∧ ((∃ w, d = .tuple [.str w, k] ∧ (w = Str.ofString "read" ∨ w = Str.ofString "store")) ∨
  ∃ w i, d = .tuple [.str w, k, .int i] ∧ (w = Str.ofString "put" ∨ w = Str.ofString "add" ∨ w = Str.ofString "need") ∧ -1000000000000 ≤ i ∧ i ≤ 1000000000000)
theorem ok_words : PyData.strOk (Str.ofString "read") = true ∧ PyData.strOk (Str.ofString "store") = true ∧ PyData.strOk (Str.ofString "put") = true ∧ PyData.strOk (Str.ofString "add") = true ∧ PyData.strOk (Str.ofString "need") = true := by decide +kernel
theorem StepD.pl {d : PyData} (h : StepD d) : G4.pl 2 d = true := by
  obtain ⟨k, hk, h⟩ := h
  obtain ⟨a, b, rfl, _, _, n⟩ := hk
  obtain ⟨o1, o2, o3, o4, o5⟩ := ok_words
  rcases h with ⟨w, rfl, hw⟩ | ⟨w, i, rfl, hw, _⟩
  · rcases hw with rfl | rfl <;> simp [kD, G4.pl, plAll, n.ok, o1, o2]
  · rcases hw with rfl | rfl | rfl <;> simp [kD, G4.pl, plAll, n.ok, o3, o4, o5]
def stepKey : PyData → PyData
  | .tuple (_ :: k :: _) => k
  | _ => .none
theorem StepD.key {d : PyData} (h : StepD d) : KeyD (stepKey d) := by
  obtain ⟨k, hk, h⟩ := h
  rcases h with ⟨w, rfl, _⟩ | ⟨w, i, rfl, _⟩ <;> exact hk
/-- a step as it stands: its second place is its key -/
theorem StepD.at {H : Hp} {d : PyData} {v : V} (h : StepD d) (i : Im H d v) : ∃ a w k r, v = .ref a ∧ H a = some (.tup (w :: k :: r)) ∧ Im H (stepKey d) k := by
  obtain ⟨k, hk, h⟩ := h
  rcases h with ⟨w, rfl, _⟩ | ⟨w, j, rfl, _⟩
  · obtain ⟨a, xs, rfl, ha, hx⟩ := im_tupE i
    simp only [ImAll] at hx
    obtain ⟨v1, r1, rfl, _, v2, r2, rfl, h2, _⟩ := hx
    exact ⟨a, v1, v2, r2, rfl, ha, h2⟩
  · obtain ⟨a, xs, rfl, ha, hx⟩ := im_tupE i
    simp only [ImAll] at hx
    obtain ⟨v1, r1, rfl, _, v2, r2, rfl, h2, _⟩ := hx
    exact ⟨a, v1, v2, r2, rfl, ha, h2⟩
/-- the unlike keys in the order of their first use -/
noncomputable def keysOf (ds : List PyData) : List PyData := ds.foldl (fun acc d => if stepKey d ∈ acc then acc else acc ++ [stepKey d]) []
theorem keysOf_snoc (ds : List PyData) (d : PyData) : keysOf (ds ++ [d]) = if stepKey d ∈ keysOf ds then keysOf ds else keysOf ds ++ [stepKey d] := by
  unfold keysOf; rw [List.foldl_append]; rfl
theorem keysOf_mem : ∀ (n : Nat) (ds : List PyData), ds.length = n → ∀ k, k ∈ keysOf ds ↔ ∃ d ∈ ds, stepKey d = k
  | 0, ds, h, k => by
    have : ds = [] := List.length_eq_zero_iff.mp h
    subst this; simp [keysOf]
  | n + 1, ds, h, k => by
    obtain ⟨es, d, rfl⟩ : ∃ es d, ds = es ++ [d] := by
      rcases List.eq_nil_or_concat ds with e | ⟨es, d, e⟩
      · subst e; simp at h
      · exact ⟨es, d, by simpa using e⟩
    have ih := keysOf_mem n es (by simpa using h)
    rw [keysOf_snoc]
    by_cases hd : stepKey d ∈ keysOf es
    · rw [if_pos hd, ih k]
      have hd' := (ih _).mp hd
      constructor
      · rintro ⟨e, he, q⟩; exact ⟨e, by simp [he], q⟩
      · rintro ⟨e, he, q⟩
        rcases List.mem_append.mp he with he | he
        · exact ⟨e, he, q⟩
        · rw [List.mem_singleton] at he; subst he; rw [← q]; exact hd'
    · rw [if_neg hd, List.mem_append, ih k]
      constructor
      · rintro (⟨e, he, q⟩ | q)
        · exact ⟨e, by simp [he], q⟩
        · rw [List.mem_singleton] at q; exact ⟨d, by simp, q.symm⟩
      · rintro ⟨e, he, q⟩
        rcases List.mem_append.mp he with he | he
        · exact .inl ⟨e, he, q⟩
        · rw [List.mem_singleton] at he; subst he; exact .inr (by simp [q])
theorem keysOf_keys {ds : List PyData} (h : ∀ d ∈ ds, StepD d) : ∀ k ∈ keysOf ds, KeyD k := by
  intro k hk
  obtain ⟨d, hd, rfl⟩ := (keysOf_mem _ ds rfl k).mp hk
  exact (h d hd).key
theorem keysOf_len : ∀ (n : Nat) (ds : List PyData), ds.length = n → (keysOf ds).length ≤ n
  | 0, ds, h => by
    have : ds = [] := List.length_eq_zero_iff.mp h
    subst this; simp [keysOf]
  | n + 1, ds, h => by
    obtain ⟨es, d, rfl⟩ : ∃ es d, ds = es ++ [d] := by
      rcases List.eq_nil_or_concat ds with e | ⟨es, d, e⟩
      · subst e; simp at h
      · exact ⟨es, d, by simpa using e⟩
    have ih := keysOf_len n es (by simpa using h)
    rw [keysOf_snoc]
    split
    · omega
    · rw [List.length_append]; simp; omega
theorem any_mem {n m : Nat} {ds : List PyData} {k : PyData} (h : ∀ d ∈ ds, pl n d = true) (hk : pl m k = true) : (ds.any fun z => PyData.eqv z k) = decide (k ∈ ds) := by
  rw [Bool.eq_iff_iff, List.any_eq_true, decide_eq_true_eq]
  constructor
  · rintro ⟨z, hz, e⟩
    have := (pl_eqv _ _ _ _ (h z hz) hk).mp e
    subst this; exact hz
  · intro hz
    exact ⟨k, hz, (pl_eqv _ _ _ _ hk hk).mpr rfl⟩
theorem pl_list {n : Nat} {ds : List PyData} (h : ∀ d ∈ ds, pl n d = true) : pl (n + 1) (.list ds) = true := by
  simp only [pl]; exact plAll_iff.mpr h
theorem pl_tuple {n : Nat} {ds : List PyData} (h : ∀ d ∈ ds, pl n d = true) : pl (n + 1) (.tuple ds) = true := by
  simp only [pl]; exact plAll_iff.mpr h
/-- a word of three: one key, two kinds -/
theorem take_snoc {α : Type} {xs : List α} {i : Nat} {x : α} (h : xs[i]? = some x) : xs.take (i + 1) = xs.take i ++ [x] := by
  rw [List.take_add_one, h]; rfl
theorem ex_take {ds : List PyData} {k : PyData} {i : Nat} {d : PyData} (h : ds[i]? = some d) : (∃ e ∈ ds.take (i + 1), stepKey e = k) ↔ ((∃ e ∈ ds.take i, stepKey e = k) ∨ stepKey d = k) := by
  rw [take_snoc h]
  constructor
  · rintro ⟨e, he, q⟩
    rcases List.mem_append.mp he with he | he
    · exact .inl ⟨e, he, q⟩
    · rw [List.mem_singleton] at he; subst he; exact .inr q
  · rintro (⟨e, he, q⟩ | q)
    · exact ⟨e, List.mem_append_left _ he, q⟩
    · exact ⟨d, by simp, q⟩
/-! ### order of data: comparisons, sorted, min, remove (over the library's rules for data) -/
open PySem.W in
section
variable {X : Cx}
def rLtA (K : PySem.W.Frag) : R2 := fun x y H Q => ∃ d e, Dp K H x d ∧ Dp K H y e ∧ alike d e = true ∧ d ≠ .none ∧ d.depth ≤ 60 ∧ Q (.bl (dataLt d e)) H
def rGtA (K : PySem.W.Frag) : R2 := fun x y H Q => ∃ d e, Dp K H x d ∧ Dp K H y e ∧ alike d e = true ∧ d ≠ .none ∧ d.depth ≤ 60 ∧ Q (.bl (dataLt e d)) H
def rLeA (K : PySem.W.Frag) : R2 := fun x y H Q => ∃ d e, Dp K H x d ∧ Dp K H y e ∧ alike d e = true ∧ d ≠ .none ∧ d.depth ≤ 60 ∧ Q (.bl (!dataLt e d)) H
theorem op_gtA {K : PySem.W.Frag} (hK : X.K = K) (hu : X.A.units + 65 < cLine) : OpR X (compareOp .Gt) (rGtA K) := by
  subst hK
  intro pins s σ H x y v u Q I rx ry h
  obtain ⟨d, e, hd, he, ha, hn, hp, q⟩ := h
  obtain ⟨as, r1⟩ := Dp.reads I d x v hd rx
  obtain ⟨bs, r2⟩ := Dp.reads I e y u he ry
  refine gt_data r1 r2 ha hn ?_ ⟨.bl _, H, I, rfl, q⟩
  have := Nat.min_le_left d.depth e.depth
  omega
theorem op_ltA {K : PySem.W.Frag} (hK : X.K = K) (hu : X.A.units + 65 < cLine) : OpR X (compareOp .Lt) (rLtA K) := by
  subst hK
  intro pins s σ H x y v u Q I rx ry h
  obtain ⟨d, e, hd, he, ha, hn, hp, q⟩ := h
  obtain ⟨as, r1⟩ := Dp.reads I d x v hd rx
  obtain ⟨bs, r2⟩ := Dp.reads I e y u he ry
  refine lt_data r1 r2 ha hn ?_ ⟨.bl _, H, I, rfl, q⟩
  have := Nat.min_le_left d.depth e.depth
  omega
theorem op_leA {K : PySem.W.Frag} (hK : X.K = K) (hu : X.A.units + 65 < cLine) : OpR X (compareOp .LtE) (rLeA K) := by
  subst hK
  intro pins s σ H x y v u Q I rx ry h
  obtain ⟨d, e, hd, he, ha, hn, hp, q⟩ := h
  obtain ⟨as, r1⟩ := Dp.reads I d x v hd rx
  obtain ⟨bs, r2⟩ := Dp.reads I e y u he ry
  refine le_data r1 r2 ha hn ?_ ⟨.bl _, H, I, rfl, q⟩
  have := Nat.min_le_left d.depth e.depth
  omega
/-- values and data, side by side -/
theorem ims_each {H : Hp} : ∀ {ds : List PyData} {ys : List V} {us : List Value}, ImAll H ds ys → Vals ys us → EachIs (fun u (b : V × PyData) => RelV b.1 u ∧ Im H b.2 b.1) us (ys.zip ds)
  | [], ys, us, h, r => by
    simp only [ImAll] at h; subst h; cases r; exact .nil
  | d :: ds, ys, us, h, r => by
    simp only [ImAll] at h
    obtain ⟨v, t, rfl, h1, h2⟩ := h
    cases r with
    | cons r1 r2 => exact .cons ⟨r1, h1⟩ (ims_each h2 r2)
theorem each_vals {H : Hp} : ∀ {us : List Value} {bs : List (V × PyData)}, EachIs (fun u (b : V × PyData) => RelV b.1 u ∧ Im H b.2 b.1) us bs → Vals (bs.map (·.1)) us ∧ ImAll H (bs.map (·.2)) (bs.map (·.1))
  | _, _, .nil => ⟨.nil, im_nil⟩
  | _, _, .cons h t => by
    obtain ⟨a, b⟩ := each_vals t
    exact ⟨.cons h.1 a, im_cons h.2 b⟩
theorem zip_snd {α β : Type} : ∀ {xs : List α} {ys : List β}, xs.length = ys.length → (xs.zip ys).map (·.2) = ys
  | [], [], _ => rfl
  | x :: xs, y :: ys, h => by simp only [List.zip_cons_cons, List.map_cons]; rw [zip_snd (by simpa using h)]
  | [], _ :: _, h => by simp at h
  | _ :: _, [], h => by simp at h
def rSortD : List V → Hp → VK → Prop := fun vs H Q => ∃ (a : Addr) (ys : List V) (ds : List PyData), vs = [.ref a] ∧ H a = some (.lst ys) ∧ ImAll H ds ys ∧ AllAlike ds ∧ Sortable ds ∧ (∀ d ∈ ds, d.depth ≤ 60) ∧
  ∀ (p : Addr) (zs : List V) (H' : Hp), H p = none → Same H H' → (∀ b, b ≠ p → H' b = H b) → H' p = some (.lst zs) → ImAll H' (ds.mergeSort fun d e => !dataLt e d) zs → Q (.ref p) H'
theorem call_sortD (hu : X.A.units + 65 < cLine) : CallR X (.builtin "sorted") rSortD := by
  intro pins s σ H vs us Q I r h
  obtain ⟨a, ys, ds, rfl, ha, hi, hal, hk, hd, q⟩ := h
  obtain ⟨its, rv, hl, hz⟩ := I.list (SqL.of (K := X.K) ha)
  rw [Vals.ref1 r]
  have hlen := hi.len
  have e := ims_each hi rv
  have hsnd : (ys.zip ds).map (·.2) = ds := zip_snd hlen
  have er : EachIs (fun u (b : V × PyData) => ∃ as, Reads s.heap u b.2 as) its (ys.zip ds) := e.mono fun u b hb => Dp.reads I b.2 b.1 u (Im.dp _ _ hb.2) hb.1
  refine sorted_data (enc := fun b : V × PyData => b.2) hl.isList e er (by rw [hsnd]; exact hal) (by rw [hsnd]; exact hk) (by rw [List.length_zip]; omega) (fun b hb => ?_) fun out ho eo => ?_
  · have hm : b.2 ∈ ds := by rw [← hsnd]; exact List.mem_map_of_mem hb
    have := hd _ hm
    omega
  · obtain ⟨hv, him⟩ := each_vals eo
    obtain ⟨ep, he'⟩ := PyProof.Rows.sortedAll_at s.heap its out.toArray
    have hms : ((ys.zip ds).mergeSort (dataLe false fun b : V × PyData => b.2)).map (·.2) = ds.mergeSort fun d e => !dataLt e d :=
      (sort_maps (r := dataLe false fun b : V × PyData => b.2) (s := fun d e => !dataLt e d) (fun b : V × PyData => b.2) (l := ys.zip ds) (fun _ _ _ _ => rfl)).trans (by rw [hsnd])
    rw [hms] at him
    have hlz : (((ys.zip ds).mergeSort (dataLe false fun b : V × PyData => b.2)).map (·.1)).length ≤ sizeLine := by
      rw [List.length_map, List.length_mergeSort, List.length_zip]; omega
    have hf := I.hok.fresh (Nat.le_succ s.heap.objs.size)
    refine ⟨.ref _, upd H (s.heap.objs.size + 1) (.lst (((ys.zip ds).mergeSort (dataLe false fun b : V × PyData => b.2)).map (·.1))), I.laid (t' := s.toks) (fun _ _ => PyProof.Rows.sortedAll_old) (Nat.le_succ _) ⟨hlz, out, ep, hv, ?_⟩, rfl, q _ _ _ hf (same_new hf) (fun b hb => upd_ne hb) upd_same (imsNew hf him)⟩
    exact he'
def rMinD : List V → Hp → VK → Prop := fun vs H Q => ∃ (a : Addr) (ys : List V) (d : PyData) (ds : List PyData), vs = [.ref a] ∧ H a = some (.lst ys) ∧ ImAll H (d :: ds) ys ∧ AlikeAll (d :: ds) ∧ (∀ e ∈ d :: ds, e.depth ≤ 60) ∧
  ∀ v : V, v ∈ ys → Im H (minD d ds) v → Q v H
theorem depthAll_le {n : Nat} : ∀ {ds : List PyData}, (∀ d ∈ ds, d.depth ≤ n) → PyData.depthAll ds ≤ n
  | [], _ => by simp [PyData.depthAll]
  | d :: ds, h => by
    have h1 := h d (by simp)
    have h2 := depthAll_le (ds := ds) fun e he => h e (List.mem_cons_of_mem _ he)
    simp only [PyData.depthAll]; omega
theorem minD_mem (d : PyData) : ∀ ds : List PyData, minD d ds ∈ d :: ds := by
  intro ds
  unfold minD
  induction ds generalizing d with
  | nil => simp
  | cons e ds ih =>
    simp only [List.foldl_cons]
    have := ih (if dataLt e d = true then e else d)
    rcases List.mem_cons.mp this with h | h
    · rw [h]; split <;> simp
    · simp [h]
theorem call_minD (hc : X.calm = true) (hu : X.A.units + 65 < cLine) : CallR X (.builtin "min") rMinD := by
  intro pins s σ H vs us Q I r h
  obtain ⟨a, ys, d, ds, rfl, ha, hi, hal, hd, q⟩ := h
  obtain ⟨its, rv, hl, hz⟩ := I.list (SqL.of (K := X.K) ha)
  rw [Vals.ref1 r]
  obtain ⟨as, hr⟩ := Dp.readsAll I (d :: ds) ys its (ImAll.dp _ _ hi) rv
  have hda := depthAll_le hd
  refine min_list_data (vs := its.toArray) (I.ok.hd hc) hl.isList (by simpa using hr) hal (by omega) fun i v h' tk bs hv hm hk => ?_
  have hv' : its[i]? = some v := by simpa using hv
  have hl1 := rv.length
  have hi1 : i < ys.length := by rw [hl1]; exact (List.getElem?_eq_some_iff.mp hv').1
  have hy : ys[i]? = some ys[i] := by simp [hi1]
  obtain ⟨u, hu1, hu2⟩ := rv.get hy
  rw [hv'] at hu1
  cases hu1
  obtain ⟨e, he1, he2⟩ := hi.get hy
  obtain ⟨cs, hre⟩ := Dp.reads I e ys[i] v (Im.dp _ _ he2) hu2
  have hem : e ∈ d :: ds := List.mem_of_getElem? he1
  have heq : e = minD d ds := alike_unique _ _ _ _ _ (hal.1 e hem _ (minD_mem d ds)) (PyProof.Rows.Reads.keeps hk hre) hm
  refine ⟨ys[i], H, I.kept (t' := tk) hk, hu2, q _ (List.getElem_mem hi1) ?_⟩
  rw [← heq]; exact he2
theorem vals_erase : ∀ {xs : List V} {us : List Value}, Vals xs us → ∀ j, Vals (xs.eraseIdx j) (us.eraseIdx j)
  | _, _, .nil, _ => .nil
  | _, _, .cons _ t, 0 => t
  | _, _, .cons h t, j + 1 => .cons h (vals_erase t j)
def rRemD : V → List V → Hp → VK → Prop := fun x vs H Q => ∃ (l : Addr) (y : V) (ys : List V) (d : PyData) (ds : List PyData) (j : Nat), x = .ref l ∧ vs = [y] ∧ H l = some (.lst ys) ∧ ImAll H ds ys ∧ Im H d y ∧ PyData.plainAll ds = true ∧ d.plain = true ∧ d.depth ≤ 60 ∧
  SeqAt.dataPlace ds d = some j ∧ Q .non (upd H l (.lst (ys.eraseIdx j)))
theorem mt_remD (hu : X.A.units + 65 < cLine) : MtR X "list.remove" rRemD := by
  intro pins s σ H x vs v us Q I rx rv h
  obtain ⟨l, y, ys, d, ds, j, rfl, rfl, hl, hi, hy, hp1, hp2, hp3, hj, q⟩ := h
  cases rx
  obtain ⟨u, rfl, ru⟩ := vals1 rv
  obtain ⟨z, its, n, r, hL, e⟩ := I.lstM hl
  obtain ⟨as, hr⟩ := Dp.readsAll I ds ys its (ImAll.dp _ _ hi) r
  obtain ⟨bs, hx⟩ := Dp.reads I d y u (Im.dp _ _ hy) ru
  have hlen := r.length
  refine SeqAt.remove_list_data (vs := its.toArray) (j := j) ⟨_, e, rfl, _, rfl⟩ (by simpa using hr) hx hp1 hp2 ?_ hj (by rw [List.size_toArray]; omega) ?_
  · have := Nat.min_le_right (PyData.depthAll ds) d.depth
    omega
  · have hj' : j < its.length := by
      obtain ⟨h1, _⟩ := List.findIdx?_eq_some_iff_getElem.mp hj
      have := hi.len
      omega
    refine ⟨.non, _, I.lset (its' := its.eraseIdx j) (ys := ys.eraseIdx j) (t' := s.toks) hl e ?_ ?_ ?_, rfl, q⟩
    · simp
    · exact vals_erase r j
    · have := List.length_eraseIdx_le ys j
      omega
end
/-! ### dicts with text keys, truth, by what is tracked -/
section
variable {X : Cx} {o i value : Expr} {pos pos' : Pos} {td ty tv ta : TE}
def tDGetS (td ty : TE) : TE := fun σ H Q => td σ H fun x H1 => ty σ H1 fun y H2 => ∃ (a : Addr) (k : Str) (kvs : List (Key × V)) (v : V), x = .ref a ∧ y = .str k ∧ H2 a = some (.dK kvs) ∧ valV kvs (Sum.inr k) = some v ∧ Q v H2
theorem pe_dgetS (hu : X.A.units + 1 < cLine) (ho : PE X o td) (hi : PE X i ty) (hs : NoSl i) : PE X (.Subscript o i pos) (tDGetS td ty) := by
  constructor
  intro pins s σ H Q I h
  apply subD_of PySem.F.slot_dict_getitem.lookup hs
  refine thn (ho.run pins s σ H _ I h) fun u s1 hx => ?_
  obtain ⟨x, H1, I1, rx, q1⟩ := hx
  refine thn (hi.run pins s1 σ H1 _ I1 q1) fun iv s2 hy => ?_
  obtain ⟨y, H2, I2, ry, a, k, kvs, v, rfl, rfl, e, l, q2⟩ := hy
  cases rx
  have g : DGet H2 a (kV (.inr k)) (some v) := by rw [← l]; exact DGet.k e
  exact ⟨dict_typeIs I2 g, d_getItem hu I2 g ry fun w' s3 I3 rw' => ⟨v, H2, I3, rw', q2⟩⟩
def sDPutS (td ty tv : TE) : TS := fun D σ H => tv σ H fun v H1 => td σ H1 fun x H2 => ty σ H2 fun y H3 => ∃ (a : Addr) (k : Str) (kvs : List (Key × V)), x = .ref a ∧ y = .str k ∧ H3 a = some (.dK kvs) ∧ kvs.length < sizeLine ∧ D.nx σ (upd H3 a (.dK (putK kvs (Sum.inr k) v)))
theorem ps_dputS (hu : X.A.units + 1 < cLine) (ho : PE X o td) (hi : PE X i ty) (hv : PE X value tv) (hs : swapsWith value (some (.Subscript o i pos')) pos.line X.env = pure false) :
    PS X (.Assign [.Subscript o i pos'] value pos) (sDPutS td ty tv) := by
  constructor
  intro pins s σ H D I h
  refine wpAny_Assign_Subscript ?_ hs
  refine thn (hv.run pins s σ H _ I h) fun r s1 hx => ?_
  obtain ⟨v, H1, I1, rv, q1⟩ := hx
  refine thn (ho.run pins s1 σ H1 _ I1 q1) fun u s2 hy => ?_
  obtain ⟨x, H2, I2, rx, q2⟩ := hy
  refine thn (hi.run pins s2 σ H2 _ I2 q2) fun iv s3 hz => ?_
  obtain ⟨y, H3, I3, ry, a, k, kvs, rfl, rfl, e, l, q3⟩ := hz
  cases rx
  exact d_setItem hu I3 (DPut.k (k := Sum.inr k) e l) ry rv fun s4 I4 => ⟨σ, _, I4, q3⟩
def truO : Option HO → Option Bool
  | some (.lst xs) => some (!xs.isEmpty)
  | some (.tup xs) => some (!xs.isEmpty)
  | _ => none
def truS (H : Hp) : V → Option Bool
  | .non => some false
  | .bl b => some b
  | .int i => some (i != 0)
  | .ref p => truO (H p)
  | _ => none
theorem truO_l {xs : List V} : truO (some (.lst xs)) = some (!xs.isEmpty) := rfl
theorem truO_t {xs : List V} : truO (some (.tup xs)) = some (!xs.isEmpty) := rfl
theorem truS_ref {H : Hp} {p : Addr} : truS H (.ref p) = truO (H p) := rfl
theorem truS_non {H : Hp} : truS H .non = some false := rfl
theorem truS_bl {H : Hp} {b : Bool} : truS H (.bl b) = some b := rfl
theorem truS_int {H : Hp} {b : Int} : truS H (.int b) = some (b != 0) := rfl
theorem truS_v {K : PySem.W.Frag} {H : Hp} {x : V} {k : Bool} (h : truS H x = some k) : TruV K x H k := by
  cases x with
  | non => cases h; rfl
  | bl b => cases h; rfl
  | int i => cases h; rfl
  | ref a =>
    rw [truS_ref] at h
    cases e : H a with
    | none => rw [e] at h; cases h
    | some o =>
      rw [e] at h
      cases o with
      | lst xs => cases h; exact .inl ⟨xs, SqL.of e, rfl⟩
      | tup xs => cases h; exact .inr (.inl ⟨xs, SqT.of e, rfl⟩)
      | _ => cases h
  | _ => cases h
def tTruS (ta : TE) : TT := fun σ H Q => ta σ H fun x H' => ∃ k, truS H' x = some k ∧ Q k H'
theorem pt_truS {a : Expr} (ha : PE X a ta) (he : ∀ whole, isTrue a X.env whole = (do let v ← whole; standAt a.pos; holding [v] (truthy v))) : PT X a (tTruS ta) := by
  constructor
  intro pins s σ H Q I h
  refine PyProof.Rows.isTrue_plain ?_ (he _)
  refine thn (ha.run pins s σ H _ I h) fun v s1 hx => ?_
  obtain ⟨x, H1, I1, r1, k, e, q⟩ := hx
  exact tru_ok pins s1 σ H1 x v Q I1 r1 ⟨k, truS_v e, q⟩
end
theorem valV_cons {p : Key × V} {r : List (Key × V)} {k : Key} : valV (p :: r) k = if p.1 = k then some p.2 else valV r k := by
  by_cases e : p.1 = k
  · rw [valV_pos e, if_pos e]
  · rw [valV_neg e, if_neg e]
/-! ### t[::-1], t a tuple -/
section
open PySem.Calls PyProof.Rows PyProof.V PySem.Spec HT
variable {prog : Program} {w : World} {A : Around} {E : Value → Shared → Prop} {s : Shared}
theorem applied_rev {sl : Addr} {a b c : Value} {n : Nat} {R : Int × Int × Nat → Shared → Prop} (hs : s.heap.IsSliceOf sl a b c) (pa : IsPart a none) (pb : IsPart b none) (pc : IsPart c (some (-1)))
    (h : R ((n : Int) - 1, -1, n) s) : wpAny (model prog w) A (Builtin.Slice.sliceApplied (.ref sl) (pure (n : Int))) R E s := by
  obtain ⟨o, ho, _, hd⟩ := id hs
  unfold Builtin.Slice.sliceApplied; unfold Builtin.Slice.sliceFields
  refine wpAny_bind (wpAny_bind (wpAny_field ho hd (x := a) rfl (wpAny_bind (wpAny_field ho hd (x := b) rfl (wpAny_bind (wpAny_field ho hd (x := c) rfl (wpAny_pure ?_)))))))
  refine wpAny_bind (slicePart_ pc ?_)
  show wpAny _ _ (if ((-1 : Int) == 0) = true then _ else _) _ _ s
  rw [if_neg (by decide)]
  refine wpAny_bind (slicePart_ pa (wpAny_bind (slicePart_ pb (wpAny_bind (wpAny_pure ?_)))))
  have e : Builtin.Slice.sliceAdjust none none (-1) (n : Int) = ((n : Int) - 1, -1) := rfl
  have e2 : Builtin.Slice.slicePlaces ((n : Int) - 1) (-1) (-1) = n := by
    unfold Builtin.Slice.slicePlaces
    rw [if_neg (by decide)]
    split
    · rw [show (-(-1 : Int)) = 1 from rfl, Int.ediv_one]; omega
    · omega
  show wpAny _ _ (match Builtin.Slice.sliceAdjust none none (-1) (n : Int) with | (x, y) => pure (x, (-1 : Int), Builtin.Slice.slicePlaces x y (-1))) _ _ s
  rw [e]
  show wpAny _ _ (pure ((n : Int) - 1, (-1 : Int), Builtin.Slice.slicePlaces ((n : Int) - 1) (-1) (-1))) _ _ s
  rw [e2]
  exact wpAny_pure h
theorem pick_rev (xs : Array Value) : ((List.range xs.size).filterMap fun (k : Nat) => xs[(((xs.size : Int) - 1) + (k : Int) * (-1)).toNat]?).toArray = xs.toList.reverse.toArray := by
  have e : (fun (k : Nat) => xs[(((xs.size : Int) - 1) + (k : Int) * (-1)).toNat]?) = (fun i => xs[i]?) ∘ fun k => xs.size - 1 - k := by
    funext k
    show xs[(((xs.size : Int) - 1) + (k : Int) * (-1)).toNat]? = xs[xs.size - 1 - k]?
    congr 1
    omega
  rw [e, ← List.filterMap_map, PySem.W.krv_range, List.filterMap_reverse, PySem.W.krv_all]
theorem item_rev {t sl : Addr} {its : Array Value} {a b c : Value} {R : Value → Shared → Prop} (ht : IsTup s.heap t its) (hs : s.heap.IsSliceOf sl a b c) (pa : IsPart a none) (pb : IsPart b none) (pc : IsPart c (some (-1)))
    (h : R (.ref s.heap.objs.size) { s with heap := s.heap.push { cls := .type "tuple", data := .seq its.toList.reverse.toArray } }) (hz : its.size ≤ sizeLine) : wpAny (model prog w) A (getItem (.ref t) (.ref sl)) R E s := by
  have hfit : sizeOk (.seq its.toList.reverse.toArray) := by
    show its.toList.reverse.toArray.size ≤ sizeLine
    rw [List.size_toArray, List.length_reverse, Array.length_toList]; exact hz
  obtain ⟨o, ho, hc, hd⟩ := id hs
  unfold getItem
  try with_reducible refine wpAny_holding ?_
  refine wpAny_bind (wpAny_sequenceKey ht.typeIs (by decide) ?_)
  refine wpAny_bind (wpAny_callSpecial?_slot (name := Str.ofString "__getitem__") ht.typeIs slot_tuple_getitem (wpAny_call_entry slot_tuple_getitem ht.typeIs entry_tuple_getitem ?_ (args_tuple_getitem _ _)))
  show wpAny _ _ (Builtin.Tuple.tupleItemsOf (.ref t) >>= _) _ _ s
  refine wpAny_bind (tupleItemsOf_ ht ?_)
  refine wpAny_bind (wpAny_typeOf (T := "slice") ⟨o, ho, hc⟩ ?_)
  rw [if_pos (by decide)]
  refine wpAny_bind (applied_rev hs pa pb pc ?_)
  show wpAny _ _ (if (((its.size : Int) - 1 == 0) && ((-1 : Int) == 1) && (its.size == its.size)) = true then _ else _) _ _ s
  rw [if_neg (by simp), pick_rev]
  first
    | exact wpAny_bind (m := Builtin.Tuple.tupleExact _) (wpAny_newObj_type (wpAny_pure ⟨_, rfl, wpAny_pure h⟩) hfit)
    | exact wpAny_bind (m := Builtin.Tuple.tupleExact _) (wpAny_newObj_type (wpAny_bind (wpAny_pure (wpAny_pure ⟨_, rfl, wpAny_pure h⟩))) hfit)
    | exact wpAny_bind (wpAny_bind (m := Builtin.Tuple.tupleExact _) (wpAny_newObj_type (wpAny_pure (wpAny_pure ⟨_, rfl, wpAny_pure h⟩)) hfit))
    | exact wpAny_bind (wpAny_bind (m := Builtin.Tuple.tupleExact _) (wpAny_newObj_type (wpAny_pure ⟨_, rfl, wpAny_pure h⟩) hfit))
end
section
open PySem.Calls PyProof.Rows PyProof.V PySem.Spec
variable {X : Cx}
def tRevT (te : TE) : TE := fun σ H Q => te σ H fun x H1 => ∃ a xs, x = .ref a ∧ H1 a = some (.tup xs) ∧ ∀ p, H1 p = none → Q (.ref p) (upd H1 p (.tup xs.reverse))
theorem pe_revT {e : Expr} {te : TE} {k : Nat} {p1 p2 p3 pos : Pos} (he : PE X e te) : PE X (.Subscript e (.Slice none none (some (.UnaryOp .USub (.Constant (.int 1) k p1) p2)) p3) pos) (tRevT te) := by
  constructor
  intro pins s σ H Q I h
  refine Subscript_ (thn (he.run pins s σ H _ I h) fun v s1 hv => ?_)
  obtain ⟨x, H1, I1, r1, a, xs, rfl, hx, q⟩ := hv
  cases r1
  have hst : PO X (some (.UnaryOp .USub (.Constant (.int 1) k p1) p2)) (tPart (tUn (rU fun i => .int (-i)) (tC (.int 1)))) := po_some (pe_un un_neg pe_int)
  refine wpAny_Slice (thn (po_none.run pins s1 σ H1 (fun o H2 => o = none ∧ H2 = H1) I1 ⟨rfl, rfl⟩) fun vl s2 hl => ?_)
  obtain ⟨l, H2, I2, pl, rfl, rfl⟩ := hl
  refine thn (po_none.run pins s2 σ H2 (fun o H3 => o = none ∧ H3 = H2) I2 ⟨rfl, rfl⟩) fun vu s3 hu => ?_
  obtain ⟨u, H3, I3, pu, rfl, rfl⟩ := hu
  refine thn (hst.run pins s3 σ H3 (fun o H4 => o = some (-1) ∧ H4 = H3) I3 ⟨1, rfl, -1, rfl, rfl, rfl⟩) fun vs s4 hs => ?_
  obtain ⟨o, H4, I4, ps, rfl, rfl⟩ := hs
  have I5 : Inv X pins σ H4 { s4 with heap := s4.heap.push { cls := .type "slice", data := .fields #[vl, vu, vs] } } := I4.kept (t' := s4.toks) fun b ob q => Heap.get?_push_of_some _ q
  obtain ⟨its, r, ht, hz⟩ := I5.tuple (SqT.of (K := X.K) hx)
  have hlen := r.length
  show wpAny (model X.prog X.w) X.A (subscriptTail e (.Slice none none (some (.UnaryOp .USub (.Constant (.int 1) k p1) p2)) p3) (.ref a) (.ref s4.heap.objs.size)) (EP X pins σ Q) X.xe { s4 with heap := s4.heap.push { cls := .type "slice", data := .fields #[vl, vu, vs] } }
  refine tail_any (ops := [.ref a, .ref s4.heap.objs.size]) ht.typeIs PyProof.Rows.slot_tuple_getitem.lookup ?_ (by with_unfolding_all rfl)
  refine item_rev ht (Heap.IsSliceOf.new _ vl vu vs) pl pu ps ?_ (by rw [List.size_toArray]; omega)
  refine ⟨.ref _, _, I5.laid (t' := s4.toks) (o := .tup xs.reverse) (fun b ob q => Heap.get?_push_of_some _ q) (Nat.le_refl _) ?_, rfl, q _ (I5.hok.fresh (Nat.le_refl _))⟩
  exact ⟨by rw [List.length_reverse]; exact hz, _, r.reverse, IsTup.new _ _⟩
end
/-! ### pairs of ints; what stays behind a change of an object -/
def tD (t : Int × Int) : PyData := .tuple [.int t.1, .int t.2]
theorem tD_pl (w : Int × Int) : pl 1 (tD w) = true := by simp [tD, pl, plAll]
theorem tD_inj {a b : Int × Int} (h : tD a = tD b) : a = b := by
  obtain ⟨a1, a2⟩ := a; obtain ⟨b1, b2⟩ := b
  simp only [tD, PyData.tuple.injEq, List.cons.injEq, PyData.int.injEq, and_true] at h
  obtain ⟨h1, h2⟩ := h
  subst h1; subst h2; rfl
theorem tD_eqv (a b : Int × Int) : PyData.eqv (tD a) (tD b) = decide (a = b) := by
  rw [pl_eqv_dec (tD_pl a) (tD_pl b)]
  by_cases h : a = b
  · subst h; simp
  · rw [decide_eq_false h, decide_eq_false fun e => h (tD_inj e)]
theorem tD_shaped (a : Int × Int) : SeqAt.shaped (tD a) = true := pl_shaped (tD_pl a)
/-- all but what stands at p and l is as it was; nothing is lost -/
structure Bt (p l : Addr) (H H' : Hp) : Prop where
  keep : ∀ b o, H b = some o → b ≠ p → b ≠ l → H' b = some o
  non : ∀ b, H' b = none → H b = none
theorem Bt.refl (p l : Addr) (H : Hp) : Bt p l H H := ⟨fun _ _ e _ _ => e, fun _ e => e⟩
theorem Bt.of {p l : Addr} {H H' : Hp} (s : Same H H') : Bt p l H H' := ⟨fun b o e _ _ => s b o e, fun b e => by
  cases z : H b with
  | none => rfl
  | some o => rw [s _ _ z] at e; cases e⟩
theorem Bt.trans {p l : Addr} {H H1 H2 : Hp} (a : Bt p l H H1) (b : Bt p l H1 H2) : Bt p l H H2 := ⟨fun c o e n1 n2 => b.keep c o (a.keep c o e n1 n2) n1 n2, fun c e => a.non c (b.non c e)⟩
theorem Bt.same {p l : Addr} {H H1 H2 : Hp} (a : Bt p l H H1) (s : Same H1 H2) : Bt p l H H2 := a.trans (Bt.of s)
theorem Bt.new {p l q : Addr} {H H1 : Hp} {o : HO} (a : Bt p l H H1) (h : H1 q = none) : Bt p l H (upd H1 q o) := a.same (same_new h)
theorem Bt.putP {p l : Addr} {H H1 : Hp} {o : HO} (a : Bt p l H H1) : Bt p l H (upd H1 p o) := ⟨fun c x e n1 n2 => get_ne n1 (a.keep c x e n1 n2), fun c e => a.non c (upd_none e).2⟩
theorem Bt.putL {p l : Addr} {H H1 : Hp} {o : HO} (a : Bt p l H H1) : Bt p l H (upd H1 l o) := ⟨fun c x e n1 n2 => get_ne n2 (a.keep c x e n1 n2), fun c e => a.non c (upd_none e).2⟩
theorem Bt.one {p l : Addr} {H H' : Hp} (a : Bt p p H H') : Bt p l H H' := ⟨fun c x e n1 _ => a.keep c x e n1 n1, a.non⟩
/-- a new list of the def's own is put -/
theorem Bt.putN {p l q : Addr} {H H1 : Hp} {o : HO} (a : Bt p l H H1) (h : H q = none) : Bt p l H (upd H1 q o) := ⟨fun c x e n1 n2 => get_ne (ne_of_none e h) (a.keep c x e n1 n2), fun c e => a.non c (upd_none e).2⟩
theorem filter_take {α : Type} {P : α → Bool} {xs : List α} {i : Nat} {x : α} (h : xs[i]? = some x) : (xs.take (i + 1)).filter P = if P x = true then (xs.take i).filter P ++ [x] else (xs.take i).filter P := by
  rw [take_snoc h, List.filter_append]
  cases e : P x <;> simp [e]
theorem Bt.tk {p l C dx : Addr} {H H' : Hp} {fs : List (Str × V)} {ws : List V} (b : Bt p l H H') (hp : H p = some (.ins C dx fs)) (hl : H l = some (.lst ws)) : Tk H H' := fun c xs e => b.keep c _ e (ne_it hp e).symm (fun z => by subst z; rw [hl] at e; cases e)
theorem Bt.tk1 {p C dx : Addr} {H H' : Hp} {fs : List (Str × V)} (b : Bt p p H H') (hp : H p = some (.ins C dx fs)) : Tk H H' := fun c xs e => b.keep c _ e (ne_it hp e).symm (ne_it hp e).symm
theorem BtD.tk {p l : Addr} {H H' : Hp} {fs : List (Key × V)} {ws : List V} (b : Bt p l H H') (hp : H p = some (.dK fs)) (hl : H l = some (.lst ws)) : Tk H H' := fun c xs e => b.keep c _ e (fun z => by subst z; rw [hp] at e; cases e) (fun z => by subst z; rw [hl] at e; cases e)
theorem ImAll.erase {H : Hp} : ∀ {ds : List PyData} {vs : List V} (j : Nat), ImAll H ds vs → ImAll H (ds.eraseIdx j) (vs.eraseIdx j)
  | [], _, _, h => by simp only [ImAll] at h; subst h; exact im_nil
  | d :: ds, vs, 0, h => by
    simp only [ImAll] at h
    obtain ⟨u, r, rfl, h1, h2⟩ := h
    exact h2
  | d :: ds, vs, j + 1, h => by
    simp only [ImAll] at h
    obtain ⟨u, r, rfl, h1, h2⟩ := h
    exact im_cons h1 (ImAll.erase j h2)
theorem map_erase {α β : Type} (f : α → β) : ∀ (xs : List α) (j : Nat), (xs.map f).eraseIdx j = (xs.eraseIdx j).map f
  | [], _ => rfl
  | _ :: _, 0 => rfl
  | x :: xs, j + 1 => by simp only [List.map_cons, List.eraseIdx_cons_succ]; rw [map_erase f xs j]
/-- the heap with a new instance -/
theorem same_made {H : Hp} {x dx C : Addr} (nx : H x = none) (nd : H dx = none) : Same H (upd (upd H dx (.own x)) x (.ins C dx [])) := fun b o e => by
  rw [upd_ne (ne_of_none e nx), upd_ne (ne_of_none e nd)]; exact e
theorem made_none {H : Hp} {x dx C l : Addr} (h : upd (upd H dx (.own x)) x (.ins C dx []) l = none) : H l = none := (upd_none (upd_none h).2).2
theorem Same.non {H H' : Hp} (s : Same H H') {b : Addr} (h : H' b = none) : H b = none := by
  cases z : H b with
  | none => rfl
  | some o => rw [s _ _ z] at h; cases h
theorem imIns0 {H : Hp} {p dx C : Addr} {d : PyData} {v : V} (hp : H p = none) (hdx : H dx = none) (h : Im H d v) : Im (upd (upd H dx (.own p)) p (.ins C dx [])) d v := Same.im (same_made (C := C) hp hdx) h

theorem ImAll.set {H : Hp} : ∀ {ds : List PyData} {vs : List V} (j : Nat) {d : PyData} {v : V}, ImAll H ds vs → Im H d v → ImAll H (ds.set j d) (vs.set j v)
  | [], _, _, _, _, h, _ => by simp only [ImAll] at h; subst h; exact im_nil
  | d :: ds, vs, 0, _, _, h, i => by
    simp only [ImAll] at h
    obtain ⟨u, r, rfl, h1, h2⟩ := h
    exact im_cons i h2
  | d :: ds, vs, j + 1, _, _, h, i => by
    simp only [ImAll] at h
    obtain ⟨u, r, rfl, h1, h2⟩ := h
    exact im_cons h1 (ImAll.set j h2 i)
/-! ### sorted does not look at the order that was -/
section
open PySem.W
theorem dataLt_tri {n m : Nat} {d e : PyData} (ha : alike d e = true) (hd : pl n d = true) (he : pl m e = true) (h1 : dataLt d e = false) (h2 : dataLt e d = false) : d = e := by
  have ht : keyToks d = keyToks e := PyProof.Rows.lex_total _ _ h1 h2
  by_cases z : PyData.eqv d e = true
  · exact (pl_eqv _ _ _ _ hd he).mp z
  · have z : PyData.eqv d e = false := by simpa using z
    have q := (toks_eqv d e ha).2 z [] [.inl 0]
    have q2 : dataLt d e = true := by
      rw [show dataLt d e = _ from q.symm, ht]
      rw [lex_pre]; rfl
    rw [h1] at q2; cases q2
theorem dataLe_tr (a b c : PyData) (h1 : (!dataLt b a) = true) (h2 : (!dataLt c b) = true) : (!dataLt c a) = true := by
  simp only [Bool.not_eq_true'] at *
  cases h : dataLt c a with
  | false => rfl
  | true => rcases PyProof.Rows.lex_negTrans _ (keyToks b) _ h with x | x
            · exact absurd (show dataLt c b = true from x) (by simp [h2])
            · exact absurd (show dataLt b a = true from x) (by simp [h1])
theorem dataLe_tot (a b : PyData) : ((!dataLt b a) || (!dataLt a b)) = true := by
  cases h : dataLt b a with
  | false => rfl
  | true =>
    cases h2 : dataLt a b with
    | false => rfl
    | true =>
      have := PyProof.Rows.lex_trans _ _ _ h2 h
      rw [PyProof.Rows.lex_irrefl] at this; cases this
theorem sortD_sorted (ds : List PyData) : (ds.mergeSort fun d e => !dataLt e d).Pairwise fun d e => (!dataLt e d) = true := List.pairwise_mergeSort dataLe_tr dataLe_tot ds
theorem sort_perm {n : Nat} {ds es : List PyData} (p : ds.Perm es) (al : AllAlike ds) (h : ∀ d ∈ ds, pl n d = true) : (ds.mergeSort fun d e => !dataLt e d) = es.mergeSort fun d e => !dataLt e d := by
  have p1 := List.mergeSort_perm ds fun d e => !dataLt e d
  have p2 := List.mergeSort_perm es fun d e => !dataLt e d
  refine List.Perm.eq_of_pairwise (le := fun d e => (!dataLt e d) = true) ?_ (sortD_sorted ds) (sortD_sorted es) ((p1.trans p).trans p2.symm)
  intro a b ha hb h1 h2
  have ha' := p1.mem_iff.mp ha
  have hb' := p.mem_iff.mpr (p2.mem_iff.mp hb)
  simp only [Bool.not_eq_true'] at h1 h2
  exact dataLt_tri (al a ha' b hb') (h a ha') (h b hb') h2 h1
end
/-! ### marks: the data, the mirror -/
structure Mrk where
  t : Int × Int
  a : Int
  h : Int
  n : Str
  b : Int
  ok : PyData.strOk n = true
noncomputable instance : DecidableEq Mrk := fun a b => Classical.propDecidable (a = b)
def mD (m : Mrk) : PyData := .tuple [tD m.t, .int m.a, .tuple [.int m.h, .str m.n], .int m.b]
def oD : Option Mrk → PyData
  | none => .none
  | some m => mD m
theorem mD_pl (m : Mrk) : pl 2 (mD m) = true := by simp [mD, tD, pl, plAll, m.ok]
theorem oD_pl (m : Option Mrk) : pl 2 (oD m) = true := by
  cases m with
  | none => simp [oD, pl]
  | some m => exact mD_pl m
theorem mD_inj {a b : Mrk} (h : mD a = mD b) : a = b := by
  obtain ⟨a1, a2, a3, a4, a5, _⟩ := a; obtain ⟨b1, b2, b3, b4, b5, _⟩ := b
  simp only [mD, PyData.tuple.injEq, List.cons.injEq, PyData.int.injEq, PyData.str.injEq, and_true] at h
  obtain ⟨h1, h2, ⟨h3, h4⟩, h5⟩ := h
  have := tD_inj h1
  subst this; subst h2; subst h3; subst h4; subst h5; rfl
theorem mD_eqv (a b : Mrk) : PyData.eqv (mD a) (mD b) = decide (a = b) := by
  rw [pl_eqv_dec (mD_pl a) (mD_pl b)]
  by_cases h : a = b
  · subst h; simp
  · rw [decide_eq_false h, decide_eq_false fun e => h (mD_inj e)]
theorem mD_shaped (a : Mrk) : SeqAt.shaped (mD a) = true := pl_shaped (mD_pl a)
theorem oD_shaped (a : Option Mrk) : SeqAt.shaped (oD a) = true := pl_shaped (oD_pl a)
theorem mDs_pl (ms : List Mrk) : ∀ d ∈ ms.map mD, pl 2 d = true := fun d h => by obtain ⟨m, _, rfl⟩ := List.mem_map.mp h; exact mD_pl m
theorem mDs_shaped (ws : List Mrk) : SeqAt.shaped (.list (ws.map mD)) = true := pl_shaped (pl_list (mDs_pl ws))
theorem mDs_shapedT (ws : List Mrk) : SeqAt.shaped (.tuple (ws.map mD)) = true := pl_shaped (pl_tuple (mDs_pl ws))
theorem mDs_any (ws : List Mrk) (w : Mrk) : ((ws.map mD).any fun z => PyData.eqv z (mD w)) = decide (w ∈ ws) := by
  rw [Bool.eq_iff_iff, List.any_eq_true, decide_eq_true_eq]
  constructor
  · rintro ⟨z, hz, e⟩
    obtain ⟨u, hu, rfl⟩ := List.mem_map.mp hz
    rw [mD_eqv, decide_eq_true_eq] at e
    subst e; exact hu
  · intro h
    exact ⟨mD w, List.mem_map_of_mem h, by rw [mD_eqv]; simp⟩
theorem mD_depth (m : Mrk) : (mD m).depth = 2 := by simp [mD, tD, PyData.depth, PyData.depthAll]
open PySem.W in
theorem mD_alike (a b : Mrk) : alike (mD a) (mD b) = true := by simp [mD, tD, alike, alikeAll]
open PySem.W in
theorem tD_alike (a b : Int × Int) : alike (tD a) (tD b) = true := by simp [tD, alike, alikeAll]
theorem tD_depth (w : Int × Int) : (tD w).depth = 1 := by simp [tD, PyData.depth, PyData.depthAll]
open PySem.W in
theorem mDs_alike (ws : List Mrk) : AllAlike (ws.map mD) := AllAlike.of mD_alike
open PySem.W in
theorem mDs_sortable (ws : List Mrk) : Sortable (ws.map mD) := Sortable.tuples fun w => ⟨_, _, rfl⟩
theorem mDs_depth (ws : List Mrk) : ∀ d ∈ ws.map mD, d.depth ≤ 60 := fun d h => by
  obtain ⟨w, _, rfl⟩ := List.mem_map.mp h
  rw [mD_depth]; decide
theorem mD_at {H : Hp} {m : Mrk} {v : V} (i : Im H (mD m) v) : ∃ a t k, v = .ref a ∧ H a = some (.tup [t, .int m.a, k, .int m.b]) ∧ Im H (tD m.t) t ∧ Im H (.tuple [.int m.h, .str m.n]) k := by
  obtain ⟨a, xs, rfl, ha, hx⟩ := im_tupE i
  simp only [ImAll] at hx
  obtain ⟨v1, r1, rfl, h1, v2, r2, rfl, h2, v3, r3, rfl, h3, v4, r4, rfl, h4, rfl⟩ := hx
  simp only [Im] at h2 h4
  subst h2; subst h4
  exact ⟨a, v1, v3, rfl, ha, h1, h3⟩
theorem ims_mk {H : Hp} {ms : List Mrk} {vs : List V} {i : Nat} {v : V} (h : ImAll H (ms.map mD) vs) (e : vs[i]? = some v) : ∃ m, ms[i]? = some m ∧ Im H (mD m) v := by
  obtain ⟨d, e1, e2⟩ := h.get e
  rw [List.getElem?_map] at e1
  cases q : ms[i]? with
  | none => rw [q] at e1; cases e1
  | some m => rw [q] at e1; cases e1; exact ⟨m, rfl, e2⟩
theorem oD_none {H : Hp} {v : V} (i : Im H (oD none) v) : v = .non := by simpa only [oD, Im] using i
open PySem.W in
/-- younger than -/
def gtM (m : Mrk) (t : Int × Int) : Bool := dataLt (tD t) (tD m.t)
noncomputable def kept1 (t : Int × Int) (k : List Mrk) (m : Mrk) : List Mrk := if gtM m t = true ∧ m ∉ k then k ++ [m] else k
noncomputable def takeS (t : Int × Int) (own : Mrk) (kept ms : List Mrk) : List Mrk := if own ∈ ms then kept else ms.foldl (kept1 t) kept
theorem kept1_len (t : Int × Int) (k : List Mrk) (m : Mrk) : (kept1 t k m).length ≤ k.length + 1 := by
  unfold kept1; split
  · simp
  · omega
theorem keptN_len (t : Int × Int) : ∀ (ms k : List Mrk), (ms.foldl (kept1 t) k).length ≤ k.length + ms.length
  | [], k => by simp
  | m :: ms, k => by
    have := keptN_len t ms (kept1 t k m)
    have := kept1_len t k m
    simp only [List.foldl_cons, List.length_cons]; omega
theorem takeS_len (t : Int × Int) (own : Mrk) (k ms : List Mrk) : (takeS t own k ms).length ≤ k.length + ms.length := by
  unfold takeS; split
  · omega
  · exact keptN_len t ms k
theorem take_foldl {α β : Type} {f : β → α → β} {b : β} {xs : List α} {i : Nat} {x : α} (h : xs[i]? = some x) : (xs.take (i + 1)).foldl f b = f ((xs.take i).foldl f b) x := by
  rw [take_snoc h, List.foldl_append]; rfl
open PySem.W in
def toldD : Option Mrk → List Mrk → List PyData
  | none, _ => []
  | some m, k => ((k ++ [m]).map mD).mergeSort fun d e => !dataLt e d
open PySem.W in
theorem told_swap (m : Mrk) (k : List Mrk) : (((m :: k).map mD).mergeSort fun d e => !dataLt e d) = toldD (some m) k := by
  unfold toldD
  refine sort_perm ?_ (mDs_alike _) (mDs_pl _)
  rw [List.map_cons, List.map_append]
  exact (List.perm_append_singleton _ _).symm
open PySem.W in
theorem toldD_pl (o : Option Mrk) (k : List Mrk) : ∀ d ∈ toldD o k, pl 2 d = true := by
  cases o with
  | none => intro d h; simp [toldD] at h
  | some m => intro d h; exact mDs_pl _ d ((List.mergeSort_perm _ _).mem_iff.mp h)
theorem toldD_shaped (o : Option Mrk) (k : List Mrk) : SeqAt.shaped (.tuple (toldD o k)) = true := pl_shaped (pl_tuple (toldD_pl o k))
def mkF (tv ov : V) (l : Addr) : List (Str × V) := [(Str.ofString "_transaction", tv), (Str.ofString "_own", ov), (Str.ofString "_kept", .ref l)]
def MarksAt (C : Addr) (H : Hp) (p l : Addr) (t : Int × Int) (own : Option Mrk) (kept : List Mrk) : Prop := ∃ dx tv ov ws, H p = some (.ins C dx (mkF tv ov l)) ∧ Im H (tD t) tv ∧ Im H (oD own) ov ∧ H l = some (.lst ws) ∧ ImAll H (kept.map mD) ws
theorem MarksAt.same {C p l : Addr} {H H' : Hp} {t : Int × Int} {own : Option Mrk} {kept : List Mrk} (a : MarksAt C H p l t own kept) (s : Same H H') : MarksAt C H' p l t own kept := by
  obtain ⟨dx, tv, ov, ws, h1, h2, h3, h4, h5⟩ := a
  exact ⟨dx, tv, ov, ws, s _ _ h1, Same.im s h2, Same.im s h3, s _ _ h4, Same.ims s h5⟩
theorem MarksAt.keep {C p l : Addr} {H H' : Hp} {t : Int × Int} {own : Option Mrk} {kept : List Mrk} (a : MarksAt C H p l t own kept) (tk : Tk H H') (k : ∀ b o, H b = some o → (b = p ∨ b = l) → H' b = some o) : MarksAt C H' p l t own kept := by
  obtain ⟨dx, tv, ov, ws, h1, h2, h3, h4, h5⟩ := a
  exact ⟨dx, tv, ov, ws, k _ _ h1 (.inl rfl), Im.mono tk _ _ h2, Im.mono tk _ _ h3, k _ _ h4 (.inr rfl), ImAll.mono tk _ _ h5⟩
/-- when i of the marks are looked at -/
noncomputable def takeS' (t : Int × Int) (own : Mrk) (kept ms : List Mrk) (i : Nat) : List Mrk := if own ∈ ms then kept else (ms.take i).foldl (kept1 t) kept
theorem takeS'_all {t : Int × Int} {own : Mrk} {kept ms : List Mrk} {i : Nat} (h : ms.length ≤ i) : takeS' t own kept ms i = takeS t own kept ms := by
  unfold takeS' takeS; rw [List.take_of_length_le h]
theorem takeS'_step {t : Int × Int} {own : Mrk} {kept ms : List Mrk} {i : Nat} {m : Mrk} (h : ms[i]? = some m) : takeS' t own kept ms (i + 1) = if own ∉ ms ∧ gtM m t = true ∧ m ∉ takeS' t own kept ms i then takeS' t own kept ms i ++ [m] else takeS' t own kept ms i := by
  unfold takeS'
  by_cases ho : own ∈ ms
  · rw [if_pos ho, if_pos ho, if_neg fun z => z.1 ho]
  · rw [if_neg ho, if_neg ho, take_foldl h]
    generalize List.foldl (kept1 t) kept (List.take i ms) = k
    unfold kept1
    by_cases z : gtM m t = true ∧ m ∉ k
    · rw [if_pos z, if_pos ⟨ho, z⟩]
    · rw [if_neg z, if_neg fun y => z y.2]
theorem ixN_ok {n : Nat} {j : Int} (h : 0 ≤ j) (h2 : j < n) : ixN n j = some j.toNat := by
  unfold ixN; rw [if_pos h, if_pos h2]
theorem takeS'_len (t : Int × Int) (own : Mrk) (kept ms : List Mrk) (i : Nat) : (takeS' t own kept ms i).length ≤ kept.length + ms.length := by
  unfold takeS'; split
  · omega
  · have := keptN_len t (ms.take i) kept
    rw [List.length_take] at this
    omega
/-! ### list(range(n)), the greatest of data -/
section
open PySem.Calls PyProof.Rows PyProof.V PySem.Spec PySem.W
variable {X : Cx}
def rRng1 : List V → Hp → VK → Prop := fun vs H Q => ∃ j : Int, vs = [V.int j] ∧ ∀ p, H p = none → Q (.ref p) (upd H p (.rng 0 j))
theorem call_rng1 : CallR X (.type "range") rRng1 := by
  intro pins s σ H vs us Q I r h
  obtain ⟨j, rfl, q⟩ := h
  obtain ⟨u, rfl, rj⟩ := vals1 r
  obtain ⟨t, rfl⟩ := rj
  refine call_range_1 ⟨.ref s.heap.objs.size, upd H s.heap.objs.size (.rng 0 j), I.laid (t' := s.toks + 1 + 1) (fun b o e => Heap.get?_push_of_some _ e) (Nat.le_refl _) ?_, rfl, q _ (I.hok.fresh (Nat.le_refl _))⟩
  exact ⟨s.toks, t, s.toks + 1, Heap.get?_push_size _ rfl⟩
theorem vals_upto : ∀ (l : List Value) (lo : Int), (∀ (j : Nat) v, l[j]? = some v → ∃ t, v = .int (lo + j) t) → Vals ((List.range l.length).map fun j : Nat => V.int (lo + j)) l
  | [], _, _ => .nil
  | x :: l, lo, h => by
    rw [List.length_cons, List.range_succ_eq_map, List.map_cons, List.map_map]
    obtain ⟨t, ht⟩ := h 0 x rfl
    subst ht
    refine .cons ⟨t, by simp⟩ ?_
    have h2 := vals_upto l (lo + 1) fun j v e => by
      obtain ⟨u, hu⟩ := h (j + 1) v (by simpa using e)
      exact ⟨u, by rw [hu]; congr 1; omega⟩
    have e : ((fun j : Nat => V.int (lo + j)) ∘ Nat.succ) = fun j : Nat => V.int (lo + 1 + j) := by
      funext j
      show V.int (lo + ((j + 1 : Nat) : Int)) = _
      congr 1; omega
    rw [e]; exact h2
def rListR : List V → Hp → VK → Prop := fun vs H Q => ∃ (p : Addr) (n : Nat), vs = [V.ref p] ∧ H p = some (.rng 0 n) ∧ n ≤ 1000 ∧ ∀ (l : Addr), H l = none → Q (.ref l) (upd H l (.lst ((List.range n).map fun j : Nat => V.int j)))
theorem call_listR (hc : X.calm = true) : CallR X (.type "list") rListR := by
  intro pins s σ H vs us Q I r h
  obtain ⟨p, n, rfl, hp, hn, q⟩ := h
  rw [Vals.ref1 r]
  obtain ⟨t, u, v, ho⟩ := (show ObjOk X.prog X.w H s.heap p (.rng 0 n) from I.hok p _ hp)
  refine call_list_range (r := p) (a := 0) (b := n) (c := 1) (t := t) (u := u) (v := v) (n := n) (I.ok.hd hc) ho ?_ ?_ (by omega) fun h' tk acc c' hk hS hi => ?_
  · exact small_one (by omega) (by omega) (by omega) (by omega)
  · unfold Builtin.Range.rangeSize
    simp
    omega
  · have hv := vals_upto acc.toList 0 fun j v e => by
      obtain ⟨t', ht⟩ := hi.2 j v (by simpa using e)
      exact ⟨t', by rw [ht]; congr 1; omega⟩
    rw [Array.length_toList, hi.1] at hv
    have e : (fun j : Nat => V.int (0 + (j : Int))) = fun j : Nat => V.int j := by
      funext j; congr 1; omega
    rw [e] at hv
    refine ⟨.ref s.heap.objs.size, _, I.laid (t' := tk) (o := .lst ((List.range n).map fun j : Nat => V.int j)) hk (Nat.le_refl _) ⟨by rw [List.length_map, List.length_range, sizeLine_eq]; omega, acc.toList, c', hv, by simpa using hS⟩, rfl, q _ (I.hok.fresh (Nat.le_refl _))⟩
theorem maxD_mem (d : PyData) : ∀ ds : List PyData, maxD d ds ∈ d :: ds := by
  intro ds
  unfold maxD
  induction ds generalizing d with
  | nil => simp
  | cons e ds ih =>
    simp only [List.foldl_cons]
    rcases List.mem_cons.mp (ih (if dataLt d e = true then e else d)) with h | h
    · rw [h]; split <;> simp
    · simp [h]
def rMaxD : List V → Hp → VK → Prop := fun vs H Q => ∃ (a : Addr) (ys : List V) (d : PyData) (ds : List PyData), vs = [.ref a] ∧ H a = some (.lst ys) ∧ ImAll H (d :: ds) ys ∧ AlikeAll (d :: ds) ∧ (∀ e ∈ d :: ds, e.depth ≤ 60) ∧
  ∀ v : V, v ∈ ys → Im H (maxD d ds) v → Q v H
theorem call_maxD (hc : X.calm = true) (hu : X.A.units + 65 < cLine) : CallR X (.builtin "max") rMaxD := by
  intro pins s σ H vs us Q I r h
  obtain ⟨a, ys, d, ds, rfl, ha, hi, hal, hd, q⟩ := h
  obtain ⟨its, rv, hl, hz⟩ := I.list (SqL.of (K := X.K) ha)
  rw [Vals.ref1 r]
  obtain ⟨as, hr⟩ := Dp.readsAll I (d :: ds) ys its (ImAll.dp _ _ hi) rv
  have hda := depthAll_le hd
  refine max_list_data (vs := its.toArray) (I.ok.hd hc) hl.isList (by simpa using hr) hal (by omega) fun i v h' tk bs hv hm hk => ?_
  have hv' : its[i]? = some v := by simpa using hv
  have hl1 := rv.length
  have hi1 : i < ys.length := by rw [hl1]; exact (List.getElem?_eq_some_iff.mp hv').1
  have hy : ys[i]? = some ys[i] := by simp [hi1]
  obtain ⟨u, hu1, hu2⟩ := rv.get hy
  rw [hv'] at hu1
  cases hu1
  obtain ⟨e, he1, he2⟩ := hi.get hy
  obtain ⟨cs, hre⟩ := Dp.reads I e ys[i] v (Im.dp _ _ he2) hu2
  have hem : e ∈ d :: ds := List.mem_of_getElem? he1
  have heq : e = maxD d ds := alike_unique _ _ _ _ _ (hal.1 e hem _ (maxD_mem d ds)) (PyProof.Rows.Reads.keeps hk hre) hm
  refine ⟨ys[i], H, I.kept (t' := tk) hk, hu2, q _ (List.getElem_mem hi1) ?_⟩
  rw [← heq]; exact he2
end
/-! ### a ring of transactions: places, ranks, marks -/
theorem sorted_marks (ms : List Mrk) : ((ms.map mD).mergeSort fun d e => !PySem.W.dataLt e d) = (ms.mergeSort fun a b => !PySem.W.dataLt (mD b) (mD a)).map mD := by
  rw [← PySem.W.sort_maps (r := fun a b => !PySem.W.dataLt (mD b) (mD a)) (s := fun d e => !PySem.W.dataLt e d) mD fun a _ b _ => rfl]
/-- what a transaction tells -/
def tells (m : Mrk) (k : List Mrk) : List Mrk := (k ++ [m]).mergeSort fun a b => !PySem.W.dataLt (mD b) (mD a)
theorem tells_mem {m x : Mrk} {k : List Mrk} : x ∈ tells m k ↔ x ∈ k ∨ x = m := by
  unfold tells
  rw [(List.mergeSort_perm _ _).mem_iff, List.mem_append, List.mem_singleton]
theorem tells_len {m : Mrk} {k : List Mrk} : (tells m k).length = k.length + 1 := by
  unfold tells
  rw [List.length_mergeSort, List.length_append]; rfl
theorem toldD_tells (m : Mrk) (k : List Mrk) : toldD (some m) k = (tells m k).map mD := sorted_marks _
theorem mem_foldl {t : Int × Int} {x : Mrk} : ∀ {ms k : List Mrk}, x ∈ ms.foldl (kept1 t) k ↔ x ∈ k ∨ (x ∈ ms ∧ gtM x t = true)
  | [], k => by simp
  | m :: ms, k => by
    rw [List.foldl_cons, mem_foldl]
    unfold kept1
    by_cases h : gtM m t = true ∧ m ∉ k
    · rw [if_pos h, List.mem_append, List.mem_singleton, List.mem_cons]
      constructor
      · rintro ((a | rfl) | ⟨a, b⟩)
        · exact .inl a
        · exact .inr ⟨.inl rfl, h.1⟩
        · exact .inr ⟨.inr a, b⟩
      · rintro (a | ⟨rfl | a, b⟩)
        · exact .inl (.inl a)
        · exact .inl (.inr rfl)
        · exact .inr ⟨a, b⟩
    · rw [if_neg h, List.mem_cons]
      constructor
      · rintro (a | ⟨a, b⟩)
        · exact .inl a
        · exact .inr ⟨.inr a, b⟩
      · rintro (a | ⟨rfl | a, b⟩)
        · exact .inl a
        · refine .inl ?_
          by_cases z : x ∈ k
          · exact z
          · exact absurd ⟨b, z⟩ h
        · exact .inr ⟨a, b⟩
theorem take_mem {t : Int × Int} {own x : Mrk} {k ms : List Mrk} (h : own ∉ ms) : x ∈ takeS t own k ms ↔ x ∈ k ∨ (x ∈ ms ∧ gtM x t = true) := by
  unfold takeS; rw [if_neg h]; exact mem_foldl
/-- the rank of a place, y standing last -/
def rk (n y k : Nat) : Nat := if y < k then k - y - 1 else k + n - y - 1
def nxt (n k : Nat) : Nat := if k + 1 = n then 0 else k + 1
theorem nxt_lt {n k : Nat} (h : k < n) : nxt n k < n := by unfold nxt; split <;> omega
theorem rk_nxt {n y k : Nat} (hy : y < n) (h : k < n) (hn : k ≠ y) : rk n y (nxt n k) = rk n y k + 1 := by
  unfold rk nxt
  by_cases h1 : k + 1 = n
  · rw [if_pos h1, if_neg (by omega), if_pos (by omega)]; omega
  · rw [if_neg h1]
    by_cases h2 : y < k
    · rw [if_pos (by omega), if_pos h2]; omega
    · rw [if_neg (by omega), if_neg h2]; omega
theorem rk_lt {n y k : Nat} (hy : y < n) (h : k < n) : rk n y k < n := by unfold rk; split <;> omega
theorem rk_y {n y : Nat} (hy : y < n) : rk n y y = n - 1 := by unfold rk; rw [if_neg (by omega)]; omega
theorem rk_ne {n y k : Nat} (hy : y < n) (h : k < n) (hn : k ≠ y) : rk n y k < n - 1 := by unfold rk; split <;> omega
/-- the rows as they stand, in a round: rem are the places that have not taken yet -/
structure RG (n y : Nat) (ring : Bool) (nm : Nat → Int × Int) (M : Nat → Mrk) (kp : Nat → List Mrk) (t : Nat) (rem : List Nat) (home : List (Int × Int)) : Prop where
  own : ∀ k, k < n → (M k).t = nm k
  inj : ∀ j k, j < n → k < n → M j = M k → j = k
  yl : y < n
  two : 2 ≤ n
  top : ring = true → ∀ k, k < n → k ≠ y → gtM (M y) (nm k) = true
  bot : ring = true → ∀ k, k < n → gtM (M k) (nm y) = false
  line : ring = false → y = n - 1
  kpy : kp y = []
  kpm : ∀ k, k < n → ∀ m ∈ kp k, ∃ j, j < n ∧ m = M j ∧ rk n y k < rk n y j ∧ gtM m (nm k) = true
  kpl : ∀ k, k < n → (kp k).length ≤ n
  kpn : ∀ k, k < n → (kp k).Nodup
  live : ring = true → ∀ k, k < n → k ≠ y → (n ≤ rk n y k + 1 + t ∨ (n ≤ rk n y k + 2 + t ∧ k ∉ rem)) → M y ∈ kp k
  hm : home = [] ∨ (ring = true ∧ home = [nm y])
  hy : ring = true → n ≤ t + 1 → y ∉ rem → home = [nm y]
theorem kept1_nd {t : Int × Int} {k : List Mrk} {m : Mrk} (h : k.Nodup) : (kept1 t k m).Nodup := by
  unfold kept1
  split
  · rename_i z
    exact List.nodup_append.mpr ⟨h, by simp, fun a ha b hb => by rw [List.mem_singleton] at hb; subst hb; rintro rfl; exact z.2 ha⟩
  · exact h
theorem foldl_nd {t : Int × Int} : ∀ {ms k : List Mrk}, k.Nodup → (ms.foldl (kept1 t) k).Nodup
  | [], _, h => h
  | m :: ms, k, h => by rw [List.foldl_cons]; exact foldl_nd (kept1_nd h)
theorem take_nd {t : Int × Int} {own : Mrk} {k ms : List Mrk} (h : k.Nodup) : (takeS t own k ms).Nodup := by
  unfold takeS; split
  · exact h
  · exact foldl_nd h
theorem len_sub {α : Type} [DecidableEq α] : ∀ {l m : List α}, l.Nodup → (∀ x ∈ l, x ∈ m) → l.length ≤ m.length
  | [], _, _, _ => Nat.zero_le _
  | x :: l, m, hn, h => by
    have hx := h x (by simp)
    have hn' := List.nodup_cons.mp hn
    have := len_sub (l := l) (m := m.erase x) hn'.2 fun y hy => (List.mem_erase_of_ne (by rintro rfl; exact hn'.1 hy)).mpr (h y (List.mem_cons_of_mem _ hy))
    rw [List.length_erase_of_mem hx] at this
    have hp := List.length_pos_of_mem hx
    simp only [List.length_cons]; omega
/-- marks of rows: a list of them, each once, is not longer than the rows -/
theorem marks_len {n : Nat} {M : Nat → Mrk} {l : List Mrk} (hn : l.Nodup) (h : ∀ m ∈ l, ∃ j, j < n ∧ m = M j) : l.length ≤ n := by
  have h2 := len_sub hn (m := (List.range n).map M) fun m hm => by
    obtain ⟨j, hj, rfl⟩ := h m hm
    exact List.mem_map_of_mem (List.mem_range.mpr hj)
  simpa using h2
section
variable {n y : Nat} {ring : Bool} {nm : Nat → Int × Int} {M : Nat → Mrk} {kp : Nat → List Mrk} {t : Nat} {rem : List Nat} {home : List (Int × Int)}
/-- nobody but y sees its own mark among those that the next one tells -/
theorem RG.not_own (g : RG n y ring nm M kp t rem home) {k : Nat} (hk : k < n) (hn : k ≠ y) : M k ∉ tells (M (nxt n k)) (kp (nxt n k)) := by
  have hx := nxt_lt hk
  have hr := rk_nxt g.yl hk hn
  intro h
  rcases tells_mem.mp h with h | h
  · obtain ⟨j, hj, e, hlt, _⟩ := g.kpm _ hx _ h
    have := g.inj _ _ hk hj e
    subst this
    omega
  · have := g.inj _ _ hk hx h
    rw [← this] at hr
    omega
/-- what the next one tells: marks of rows behind the place -/
theorem RG.told (g : RG n y ring nm M kp t rem home) {k : Nat} (hk : k < n) (hn : k ≠ y) : ∀ m ∈ tells (M (nxt n k)) (kp (nxt n k)), ∃ j, j < n ∧ m = M j ∧ rk n y k < rk n y j := by
  have hx := nxt_lt hk
  have hr := rk_nxt g.yl hk hn
  intro m h
  rcases tells_mem.mp h with h | rfl
  · obtain ⟨j, hj, e, hlt, _⟩ := g.kpm _ hx _ h
    exact ⟨j, hj, e, by omega⟩
  · exact ⟨_, hx, rfl, by omega⟩
/-- a place takes what the next one tells -/
theorem RG.take (g : RG n y ring nm M kp t rem home) {k : Nat} (hk : k < n) (hn : k ≠ y) (hrm : k ∈ rem) (nd : rem.Nodup) :
    RG n y ring nm M (fun j => if j = k then takeS (nm k) (M k) (kp k) (tells (M (nxt n k)) (kp (nxt n k))) else kp j) t (rem.filter fun j => decide (j ≠ k)) home := by
  have hno := g.not_own hk hn
  have hto := g.told hk hn
  have hx := nxt_lt hk
  have hr := rk_nxt g.yl hk hn
  have hnew : ∀ m ∈ takeS (nm k) (M k) (kp k) (tells (M (nxt n k)) (kp (nxt n k))), ∃ j, j < n ∧ m = M j ∧ rk n y k < rk n y j ∧ gtM m (nm k) = true := by
    intro m hm
    rcases (take_mem hno).mp hm with h | ⟨h, h2⟩
    · exact g.kpm k hk m h
    · obtain ⟨j, hj, e, hlt⟩ := hto m h
      exact ⟨j, hj, e, hlt, h2⟩
  refine { g with kpy := ?_, kpm := ?_, kpl := ?_, kpn := ?_, live := ?_, hy := ?_ }
  · rw [if_neg fun z => hn z.symm]; exact g.kpy
  · intro j hj m hm
    by_cases e : j = k
    · subst e; rw [if_pos rfl] at hm; exact hnew m hm
    · rw [if_neg e] at hm; exact g.kpm j hj m hm
  · intro j hj
    by_cases e : j = k
    · subst e; rw [if_pos rfl]
      exact marks_len (take_nd (g.kpn j hj)) fun m hm => by obtain ⟨i, hi, e, _⟩ := hnew m hm; exact ⟨i, hi, e⟩
    · rw [if_neg e]; exact g.kpl j hj
  · intro j hj
    by_cases e : j = k
    · subst e; rw [if_pos rfl]; exact take_nd (g.kpn j hj)
    · rw [if_neg e]; exact g.kpn j hj
  · intro rr j hj hjy hc
    by_cases e : j = k
    · subst e; rw [if_pos rfl]
      refine (take_mem hno).mpr ?_
      by_cases h0 : n ≤ rk n y j + 1 + t
      · exact .inl (g.live rr j hj hjy (.inl h0))
      · refine .inr ⟨tells_mem.mpr ?_, g.top rr j hj hjy⟩
        by_cases hxy : nxt n j = y
        · exact .inr (by rw [hxy])
        · refine .inl (g.live rr _ hx hxy (.inl ?_))
          rcases hc with h | ⟨h, _⟩
          · omega
          · omega
    · rw [if_neg e]
      refine g.live rr j hj hjy ?_
      rcases hc with h | ⟨h, h2⟩
      · exact .inl h
      · refine .inr ⟨h, fun z => h2 ?_⟩
        exact List.mem_filter.mpr ⟨z, by simpa using e⟩
  · intro rr ht h
    refine g.hy rr ht fun z => h ?_
    exact List.mem_filter.mpr ⟨z, by simpa using fun e => hn e.symm⟩
/-- y takes: what it keeps stays, its own mark has come home or not -/
theorem RG.takeY (g : RG n y ring nm M kp t rem home) (rr : ring = true) : takeS (nm y) (M y) (kp y) (tells (M (nxt n y)) (kp (nxt n y))) = [] := by
  unfold takeS
  split
  · exact g.kpy
  · rename_i h
    rw [g.kpy]
    have : ∀ x, x ∉ (tells (M (nxt n y)) (kp (nxt n y))).foldl (kept1 (nm y)) [] := by
      intro x hx
      rcases mem_foldl.mp hx with z | ⟨z, z2⟩
      · simp at z
      · have hnx := nxt_lt g.yl
        rcases tells_mem.mp z with z | z
        · obtain ⟨j, hj, e, _⟩ := g.kpm _ hnx _ z
          rw [e, g.bot rr j hj] at z2; cases z2
        · rw [z, g.bot rr _ hnx] at z2; cases z2
    exact List.eq_nil_iff_forall_not_mem.mpr this
theorem RG.came (g : RG n y ring nm M kp t rem home) (rr : ring = true) (hrm : y ∈ rem) (home' : List (Int × Int))
    (hh : home' = if M y ∈ tells (M (nxt n y)) (kp (nxt n y)) ∧ nm y ∉ home then home ++ [nm y] else home) :
    RG n y ring nm M kp t (rem.filter fun j => decide (j ≠ y)) home' := by
  have hx := nxt_lt g.yl
  have hxy : nxt n y ≠ y := by
    have := g.two
    have := g.yl
    unfold nxt; split <;> omega
  refine { g with live := ?_, hm := ?_, hy := ?_ }
  · intro _ j hj hjy hc
    refine g.live rr j hj hjy ?_
    rcases hc with h | ⟨h, h2⟩
    · exact .inl h
    · exact .inr ⟨h, fun z => h2 (List.mem_filter.mpr ⟨z, by simpa using hjy⟩)⟩
  · rw [hh]
    split
    · rename_i c
      rcases g.hm with z | ⟨_, z⟩
      · exact .inr ⟨rr, by rw [z]; rfl⟩
      · exact absurd (by rw [z]; simp) c.2
    · exact g.hm
  · intro _ ht _
    have hin : M y ∈ tells (M (nxt n y)) (kp (nxt n y)) := tells_mem.mpr (.inl (g.live rr _ hx hxy (.inl (by omega))))
    rw [hh]
    rcases g.hm with z | ⟨_, z⟩
    · rw [if_pos ⟨hin, by rw [z]; simp⟩, z]; rfl
    · rw [if_neg fun c => c.2 (by rw [z]; simp), z]
/-- the last of a line takes nothing -/
theorem RG.rest (g : RG n y ring nm M kp t rem home) (rr : ring = false) (k : Nat) : RG n y ring nm M kp t (rem.filter fun j => decide (j ≠ k)) home :=
  { g with live := fun z => by (rw [rr] at z; cases z), hy := fun z => by (rw [rr] at z; cases z) }
/-- the next round -/
theorem RG.round (g : RG n y ring nm M kp t [] home) (rem' : List Nat) (hr : ∀ k, k < n → k ∈ rem') : RG n y ring nm M kp (t + 1) rem' home :=
  { g with
    live := fun rr j hj hjy hc => g.live rr j hj hjy (by
      rcases hc with h | ⟨h, h2⟩
      · exact .inr ⟨by omega, by simp⟩
      · exact absurd (hr j hj) h2)
    hy := fun rr ht h => absurd (hr _ g.yl) h }
theorem RG.over (g : RG n y ring nm M kp (n - 1) [] home) : home = if ring = true then [nm y] else [] := by
  cases rr : ring with
  | true => rw [if_pos rfl]; exact g.hy rr (by have := g.two; omega) (by simp)
  | false =>
    rw [if_neg (by simp)]
    rcases g.hm with z | ⟨z, _⟩
    · exact z
    · rw [rr] at z; cases z
end
theorem gt_not {m : Mrk} {t : Int × Int} (h : gtM m t = true) : PySem.W.dataLt (tD m.t) (tD t) = false := by
  have h2 := dataLe_tot (tD m.t) (tD t)
  rw [show PySem.W.dataLt (tD t) (tD m.t) = true from h] at h2
  simpa using h2
theorem lt_self (t : Int × Int) : PySem.W.dataLt (tD t) (tD t) = false := PyProof.Rows.lex_irrefl _
/-- the rows on the heap -/
structure RowsH (C : Addr) (H : Hp) (n : Nat) (ps ls : Nat → Addr) (nm : Nat → Int × Int) (M : Nat → Mrk) (kp : Nat → List Mrk) : Prop where
  at_ : ∀ k, k < n → MarksAt C H (ps k) (ls k) (nm k) (some (M k)) (kp k)
  np : ∀ j k, j < n → k < n → j ≠ k → ps j ≠ ps k
  nl : ∀ j k, j < n → k < n → j ≠ k → ls j ≠ ls k
abbrev rowsL (n : Nat) (ps : Nat → Addr) : List V := (List.range n).map fun k => V.ref (ps k)
abbrev namesD (n : Nat) (nm : Nat → Int × Int) : List PyData := (List.range n).map fun k => tD (nm k)
theorem rowsL_at {n k : Nat} {ps : Nat → Addr} (h : k < n) : atI (rowsL n ps) (k : Int) = some (.ref (ps k)) := atI_nat (by simp [h])
theorem names_at {H : Hp} {n k : Nat} {nm : Nat → Int × Int} {xs : List V} (h : k < n) (i : ImAll H (namesD n nm) xs) : ∃ x, atI xs (k : Int) = some x ∧ Im H (tD (nm k)) x := by
  obtain ⟨x, e, ix⟩ := i.get' (i := k) (d := tD (nm k)) (by simp [h])
  exact ⟨x, atI_nat e, ix⟩
theorem RowsH.same {C : Addr} {H H' : Hp} {n : Nat} {ps ls : Nat → Addr} {nm : Nat → Int × Int} {M : Nat → Mrk} {kp : Nat → List Mrk} (r : RowsH C H n ps ls nm M kp) (s : Same H H') : RowsH C H' n ps ls nm M kp :=
  { r with at_ := fun k h => (r.at_ k h).same s }
/-- one row has taken -/
theorem RowsH.took {C : Addr} {H H' : Hp} {n k : Nat} {ps ls : Nat → Addr} {nm : Nat → Int × Int} {M : Nat → Mrk} {kp : Nat → List Mrk} {ms : List Mrk} (r : RowsH C H n ps ls nm M kp) (hk : k < n)
    (m : MarksAt C H' (ps k) (ls k) (nm k) (some (M k)) ms) (b : Bt (ps k) (ls k) H H') : RowsH C H' n ps ls nm M fun j => if j = k then ms else kp j := by
  refine { r with at_ := fun j hj => ?_ }
  by_cases e : j = k
  · subst e; rw [if_pos rfl]; exact m
  · rw [if_neg e]
    obtain ⟨dx, tv, ov, ws, hp, it, io, hl, iw⟩ := r.at_ k hk
    obtain ⟨dx2, tv2, ov2, ws2, hp2, it2, io2, hl2, iw2⟩ := r.at_ j hj
    have tk := b.tk hp hl
    exact ⟨dx2, tv2, ov2, ws2, b.keep _ _ hp2 (r.np j k hj hk e) (ne_il hp2 hl), Im.mono tk _ _ it2, Im.mono tk _ _ io2, b.keep _ _ hl2 (ne_il hp hl2).symm (r.nl j k hj hk e), ImAll.mono tk _ _ iw2⟩
theorem tDs_any (ts : List (Int × Int)) (t : Int × Int) : ((ts.map tD).any fun z => PyData.eqv z (tD t)) = decide (t ∈ ts) := by
  rw [Bool.eq_iff_iff, List.any_eq_true, decide_eq_true_eq]
  constructor
  · rintro ⟨z, hz, e⟩
    obtain ⟨u, hu, rfl⟩ := List.mem_map.mp hz
    rw [tD_eqv, decide_eq_true_eq] at e
    subst e; exact hu
  · intro h
    exact ⟨tD t, List.mem_map_of_mem h, by rw [tD_eqv]; simp⟩
theorem tDs_shaped (ts : List (Int × Int)) : SeqAt.shaped (.list (ts.map tD)) = true := pl_shaped (pl_list fun d h => by obtain ⟨m, _, rfl⟩ := List.mem_map.mp h; exact tD_pl m)
theorem tD_at {H : Hp} {t : Int × Int} {v : V} (i : Im H (tD t) v) : ∃ a, v = .ref a ∧ H a = some (.tup [.int t.1, .int t.2]) := by
  obtain ⟨a, xs, rfl, ha, hx⟩ := im_tupE i
  simp only [ImAll] at hx
  obtain ⟨v1, r1, rfl, h1, v2, r2, rfl, h2, rfl⟩ := hx
  simp only [Im] at h1 h2
  subst h1; subst h2
  exact ⟨a, rfl, ha⟩
theorem nd_snoc {α : Type} {xs : List α} {x : α} (h : xs.Nodup) (hx : x ∉ xs) : (xs ++ [x]).Nodup := List.nodup_append.mpr ⟨h, by simp, fun a ha b hb => by rw [List.mem_singleton] at hb; subst hb; rintro rfl; exact hx ha⟩
open PySem.W in
theorem maxD_ge (d : PyData) : ∀ ds : List PyData, ∀ e ∈ d :: ds, dataLt (maxD d ds) e = false := by
  intro ds
  unfold maxD
  induction ds generalizing d with
  | nil => intro e he; rw [List.mem_singleton] at he; subst he; exact PyProof.Rows.lex_irrefl _
  | cons x ds ih =>
    intro e he
    simp only [List.foldl_cons]
    have h0 := ih (if dataLt d x = true then x else d)
    have hh := h0 _ List.mem_cons_self
    -- not less than what was chosen, which is not less than either
    have tr : ∀ {a b c : PyData}, dataLt a b = false → dataLt b c = false → dataLt a c = false := by
      intro a b c h1 h2
      have := dataLe_tr c b a (by simp [h2]) (by simp [h1])
      simpa using this
    rcases List.mem_cons.mp he with rfl | he
    · cases hx : dataLt e x with
      | true =>
        rw [hx] at hh
        simp only [if_true] at hh
        have h2 := dataLe_tot x e
        rw [hx] at h2
        have h3 : dataLt x e = false := by simpa using h2
        simp only [if_true]
        exact tr hh h3
      | false =>
        rw [hx] at hh
        simpa using hh
    rcases List.mem_cons.mp he with rfl | he
    · cases hx : dataLt d e with
      | true =>
        rw [hx] at hh
        simpa using hh
      | false =>
        rw [hx] at hh
        simp only [Bool.false_eq_true, if_false] at hh ⊢
        exact tr hh hx
    · exact h0 e (List.mem_cons_of_mem _ he)
theorem erase_filter : ∀ {xs : List Nat} (i : Nat) (h : i < xs.length), xs.Nodup → xs.eraseIdx i = xs.filter fun j => decide (j ≠ xs[i])
  | [], _, h, _ => by simp at h
  | x :: xs, 0, _, nd => by
    have hn := (List.nodup_cons.mp nd).1
    simp only [List.eraseIdx_cons_zero, List.filter_cons, List.getElem_cons_zero, ne_eq, not_true, decide_false, Bool.false_eq_true, if_false]
    refine (List.filter_eq_self.mpr fun y hy => ?_).symm
    simp only [decide_eq_true_eq]
    intro z
    subst z
    exact hn hy
  | x :: xs, i + 1, h, nd => by
    have hn := List.nodup_cons.mp nd
    have hi : i < xs.length := by simpa using h
    have ne : x ≠ xs[i] := fun z => hn.1 (by rw [z]; exact List.getElem_mem hi)
    simp only [List.eraseIdx_cons_succ, List.filter_cons, List.getElem_cons_succ, ne_eq, ne, not_false_eq_true, decide_true, if_true]
    rw [erase_filter i hi hn.2]
theorem names_list (ts : List (Int × Int)) : namesD ts.length (fun k => ts.getD k (0, 0)) = ts.map tD := by
  refine List.ext_getElem (by simp) fun i h1 h2 => ?_
  have hi : i < ts.length := by simpa using h2
  simp [List.getD, hi]
theorem names_inj {ts : List (Int × Int)} (nd : ts.Nodup) {j k : Nat} (hj : j < ts.length) (hk : k < ts.length) (h : ts.getD j (0, 0) = ts.getD k (0, 0)) : j = k := by
  simp only [List.getD, hj, hk, List.getElem?_eq_getElem, Option.getD_some] at h
  have pw := List.pairwise_iff_getElem.mp nd
  by_cases h1 : j < k
  · exact absurd h (pw j k hj hk h1)
  · by_cases h2 : k < j
    · exact absurd h.symm (pw k j hk hj h2)
    · omega
/-- the youngest -/
theorem top_of {ts : List (Int × Int)} (nd : ts.Nodup) (h : 2 ≤ ts.length) : ∃ (y : Nat) (d : PyData) (ds : List PyData), y < ts.length ∧ ts.map tD = d :: ds ∧ PySem.W.maxD d ds = tD (ts.getD y (0, 0)) ∧
    (∀ k, k < ts.length → k ≠ y → PySem.W.dataLt (tD (ts.getD k (0, 0))) (tD (ts.getD y (0, 0))) = true) ∧ ∀ k, k < ts.length → PySem.W.dataLt (tD (ts.getD y (0, 0))) (tD (ts.getD k (0, 0))) = false := by
  cases e : ts.map tD with
  | nil => rw [List.map_eq_nil_iff] at e; subst e; simp at h
  | cons d ds =>
    have hm := maxD_mem d ds
    rw [← e] at hm
    obtain ⟨t, ht, et⟩ := List.mem_map.mp hm
    obtain ⟨y, hy, rfl⟩ := List.mem_iff_getElem.mp ht
    have gy : ts.getD y (0, 0) = ts[y] := by simp [List.getD, hy]
    have ge : ∀ k, k < ts.length → PySem.W.dataLt (tD ts[y]) (tD (ts.getD k (0, 0))) = false := fun k hk => by
      have gk : ts.getD k (0, 0) = ts[k] := by simp [List.getD, hk]
      rw [et, gk]
      exact maxD_ge d ds _ (by rw [← e]; exact List.mem_map_of_mem (List.getElem_mem hk))
    refine ⟨y, d, ds, hy, rfl, by rw [gy, et], fun k hk hn => ?_, fun k hk => by rw [gy]; exact ge k hk⟩
    rw [gy]
    cases hl : PySem.W.dataLt (tD (ts.getD k (0, 0))) (tD ts[y]) with
    | true => rfl
    | false =>
      have := tD_inj (dataLt_tri (tD_alike _ _) (tD_pl _) (tD_pl _) hl (ge k hk))
      rw [← gy] at this
      exact absurd (names_inj nd hk hy this) hn
def mrk0 : Mrk := ⟨(0, 0), 0, 0, ⟨#[]⟩, 0, by decide +kernel⟩
theorem rowsL_snoc (i : Nat) (ps : Nat → Addr) (p : Addr) : rowsL i ps ++ [V.ref p] = rowsL (i + 1) fun j => if j = i then p else ps j := by
  unfold rowsL
  rw [List.range_succ, List.map_append]
  congr 1
  · refine List.map_congr_left fun k hk => ?_
    have hki := List.mem_range.mp hk
    have hne : ¬ k = i := by omega
    simp [hne]
  · simp
/-- a row elsewhere stays behind a change of one object alone -/
theorem MarksAt.bt1 {C p l q dx : Addr} {fs : List (Str × V)} {H H' : Hp} {t : Int × Int} {own : Option Mrk} {kept : List Mrk} (a : MarksAt C H p l t own kept) (b : Bt q q H H') (hq : H q = some (.ins C dx fs)) (n : p ≠ q) : MarksAt C H' p l t own kept := by
  obtain ⟨dx2, tv, ov, ws, h1, h2, h3, h4, h5⟩ := a
  have tk := b.tk1 hq
  exact ⟨dx2, tv, ov, ws, b.keep _ _ h1 n n, Im.mono tk _ _ h2, Im.mono tk _ _ h3, b.keep _ _ h4 (ne_il hq h4).symm (ne_il hq h4).symm, ImAll.mono tk _ _ h5⟩
/-- a row stays behind a change of a list that is not its own -/
theorem MarksAt.put {C p l R : Addr} {xs : List V} {o : HO} {H : Hp} {t : Int × Int} {own : Option Mrk} {kept : List Mrk} (a : MarksAt C H p l t own kept) (hR : H R = some (.lst xs)) (n : l ≠ R) : MarksAt C (upd H R o) p l t own kept := by
  obtain ⟨dx2, tv, ov, ws, h1, h2, h3, h4, h5⟩ := a
  exact ⟨dx2, tv, ov, ws, get_ne (ne_il h1 hR) h1, imPut hR h2, imPut hR h3, get_ne n h4, imsPut hR h5⟩
theorem MarksAt.gn {C p l s : Addr} {H H' : Hp} {t : Int × Int} {own : Option Mrk} {kept : List Mrk} (a : MarksAt C H p l t own kept) (g : Gn s H H') (n : l ≠ s) : MarksAt C H' p l t own kept := by
  obtain ⟨sx, sy, hs⟩ := g.st0
  obtain ⟨dx2, tv, ov, ws, h1, h2, h3, h4, h5⟩ := a
  exact ⟨dx2, tv, ov, ws, g.but _ _ h1 (ne_il h1 hs), g.im h2, g.im h3, g.but _ _ h4 n, g.ims h5⟩
theorem RG.start {ts : List (Int × Int)} {ring : Bool} {nm : Nat → Int × Int} {M : Nat → Mrk} {yr : Nat} (nd : ts.Nodup) (h2 : 2 ≤ ts.length) (hnm : (fun k => ts.getD k (0, 0)) = nm) (hM : ∀ k, k < ts.length → (M k).t = nm k) (hy : yr < ts.length)
    (ht : ∀ k, k < ts.length → k ≠ yr → PySem.W.dataLt (tD (ts.getD k (0, 0))) (tD (ts.getD yr (0, 0))) = true) (hb : ∀ k, k < ts.length → PySem.W.dataLt (tD (ts.getD yr (0, 0))) (tD (ts.getD k (0, 0))) = false) :
    RG ts.length (if ring = true then yr else ts.length - 1) ring nm M (fun _ => []) 0 (List.range ts.length) [] := by
  have gd : ∀ k, ts.getD k (0, 0) = nm k := fun k => congrFun hnm k
  have yl : (if ring = true then yr else ts.length - 1) < ts.length := by split <;> omega
  refine { own := hM, inj := fun j k hj hk e => ?_, yl := yl, two := h2, top := fun rr k hk hn => ?_, bot := fun rr k hk => ?_, line := fun rr => by rw [if_neg (by simp [rr])], kpy := rfl, kpm := fun k hk m hm => by simp at hm, kpl := fun k hk => by simp, kpn := fun k hk => List.nodup_nil,
           live := fun rr k hk hn hc => ?_, hm := .inl rfl, hy := fun rr h => by omega }
  · have := congrArg Mrk.t e
    rw [hM j hj, hM k hk, ← gd, ← gd] at this
    exact names_inj nd hj hk this
  · rw [if_pos rr] at hn ⊢
    have := ht k hk hn
    rw [gd, gd] at this
    show PySem.W.dataLt (tD (nm k)) (tD (M yr).t) = true
    rw [hM yr hy]; exact this
  · rw [if_pos rr]
    have := hb k hk
    rw [gd, gd] at this
    show PySem.W.dataLt (tD (nm yr)) (tD (M k).t) = false
    rw [hM k hk]; exact this
  · have hr := rk_ne yl hk hn
    rcases hc with h | ⟨_, h⟩
    · omega
    · exact absurd (List.mem_range.mpr hk) h
open PySem.W in
theorem tDs_alikeAll (ts : List (Int × Int)) : AlikeAll (ts.map tD) := ⟨fun x hx y hy => by
  obtain ⟨a, _, rfl⟩ := List.mem_map.mp hx
  obtain ⟨b, _, rfl⟩ := List.mem_map.mp hy
  exact tD_alike a b, fun x hx => by
  obtain ⟨a, _, rfl⟩ := List.mem_map.mp hx
  simp [tD]⟩

local macro_rules | `(tactic| walk_at "hp") => `(tactic| first
  | assumption | exact upd_same | (refine get_new (by assumption) ?_; walk_at "hp") | (refine Gn.at (by assumption) ?_ (by assumption); walk_at "hp")
  | (refine (by assumption : Same _ _) _ _ ?_; walk_at "hp") | (refine get_ne (by assumption) ?_; walk_at "hp") | (refine get_ne (Ne.symm (by assumption)) ?_; walk_at "hp"))
local macro_rules | `(tactic| walk_at "im") => `(tactic| first
  | assumption | exact im_int | exact im_str | exact im_non | exact im_bool
  | (refine Gn.im (by assumption) ?_; walk_at "im") | (refine imNew (by assumption) ?_; walk_at "im") | (refine Same.im (by assumption) ?_; walk_at "im")
  | (refine imPut (by assumption) ?_; walk_at "im") | (refine imIns (by assumption) ?_; walk_at "im") | (refine imDk (by assumption) ?_; walk_at "im")
  | (refine im_tupNew (by assumption) ?_; walk_at "ims") | (refine im_tup (by assumption) ?_; walk_at "ims"))
local macro_rules | `(tactic| walk_at "ims") => `(tactic| first
  | assumption | exact im_nil | (refine Gn.ims (by assumption) ?_; walk_at "ims") | (refine imsNew (by assumption) ?_; walk_at "ims") | (refine Same.ims (by assumption) ?_; walk_at "ims")
  | (refine imsPut (by assumption) ?_; walk_at "ims") | (refine imsIns (by assumption) ?_; walk_at "ims") | (refine imsDk (by assumption) ?_; walk_at "ims") | (refine im_cons ?_ ?_; walk_at "im"; walk_at "ims"))

theorem ne_0_1 : (Str.ofString "_kept" = Str.ofString "_own") = False := eq_false (by decide +kernel)
theorem ne_0_1b : (Str.ofString "_kept" == Str.ofString "_own") = false := by decide +kernel
theorem ne_0_2 : (Str.ofString "_kept" = Str.ofString "_transaction") = False := eq_false (by decide +kernel)
theorem ne_0_2b : (Str.ofString "_kept" == Str.ofString "_transaction") = false := by decide +kernel
theorem ne_0_3 : (Str.ofString "_kept" = Str.ofString "begin") = False := eq_false (by decide +kernel)
theorem ne_0_3b : (Str.ofString "_kept" == Str.ofString "begin") = false := by decide +kernel
theorem ne_0_4 : (Str.ofString "_kept" = Str.ofString "take") = False := eq_false (by decide +kernel)
theorem ne_0_4b : (Str.ofString "_kept" == Str.ofString "take") = false := by decide +kernel
theorem ne_0_5 : (Str.ofString "_kept" = Str.ofString "told") = False := eq_false (by decide +kernel)
theorem ne_0_5b : (Str.ofString "_kept" == Str.ofString "told") = false := by decide +kernel
theorem ne_1_0 : (Str.ofString "_own" = Str.ofString "_kept") = False := eq_false (by decide +kernel)
theorem ne_1_0b : (Str.ofString "_own" == Str.ofString "_kept") = false := by decide +kernel
theorem ne_1_2 : (Str.ofString "_own" = Str.ofString "_transaction") = False := eq_false (by decide +kernel)
theorem ne_1_2b : (Str.ofString "_own" == Str.ofString "_transaction") = false := by decide +kernel
theorem ne_1_3 : (Str.ofString "_own" = Str.ofString "begin") = False := eq_false (by decide +kernel)
theorem ne_1_3b : (Str.ofString "_own" == Str.ofString "begin") = false := by decide +kernel
theorem ne_1_4 : (Str.ofString "_own" = Str.ofString "take") = False := eq_false (by decide +kernel)
theorem ne_1_4b : (Str.ofString "_own" == Str.ofString "take") = false := by decide +kernel
theorem ne_1_5 : (Str.ofString "_own" = Str.ofString "told") = False := eq_false (by decide +kernel)
theorem ne_1_5b : (Str.ofString "_own" == Str.ofString "told") = false := by decide +kernel
theorem ne_2_0 : (Str.ofString "_transaction" = Str.ofString "_kept") = False := eq_false (by decide +kernel)
theorem ne_2_0b : (Str.ofString "_transaction" == Str.ofString "_kept") = false := by decide +kernel
theorem ne_2_1 : (Str.ofString "_transaction" = Str.ofString "_own") = False := eq_false (by decide +kernel)
theorem ne_2_1b : (Str.ofString "_transaction" == Str.ofString "_own") = false := by decide +kernel
theorem ne_2_3 : (Str.ofString "_transaction" = Str.ofString "begin") = False := eq_false (by decide +kernel)
theorem ne_2_3b : (Str.ofString "_transaction" == Str.ofString "begin") = false := by decide +kernel
theorem ne_2_4 : (Str.ofString "_transaction" = Str.ofString "take") = False := eq_false (by decide +kernel)
theorem ne_2_4b : (Str.ofString "_transaction" == Str.ofString "take") = false := by decide +kernel
theorem ne_2_5 : (Str.ofString "_transaction" = Str.ofString "told") = False := eq_false (by decide +kernel)
theorem ne_2_5b : (Str.ofString "_transaction" == Str.ofString "told") = false := by decide +kernel
theorem ne_3_0 : (Str.ofString "begin" = Str.ofString "_kept") = False := eq_false (by decide +kernel)
theorem ne_3_0b : (Str.ofString "begin" == Str.ofString "_kept") = false := by decide +kernel
theorem ne_3_1 : (Str.ofString "begin" = Str.ofString "_own") = False := eq_false (by decide +kernel)
theorem ne_3_1b : (Str.ofString "begin" == Str.ofString "_own") = false := by decide +kernel
theorem ne_3_2 : (Str.ofString "begin" = Str.ofString "_transaction") = False := eq_false (by decide +kernel)
theorem ne_3_2b : (Str.ofString "begin" == Str.ofString "_transaction") = false := by decide +kernel
theorem ne_4_0 : (Str.ofString "take" = Str.ofString "_kept") = False := eq_false (by decide +kernel)
theorem ne_4_0b : (Str.ofString "take" == Str.ofString "_kept") = false := by decide +kernel
theorem ne_4_1 : (Str.ofString "take" = Str.ofString "_own") = False := eq_false (by decide +kernel)
theorem ne_4_1b : (Str.ofString "take" == Str.ofString "_own") = false := by decide +kernel
theorem ne_4_2 : (Str.ofString "take" = Str.ofString "_transaction") = False := eq_false (by decide +kernel)
theorem ne_4_2b : (Str.ofString "take" == Str.ofString "_transaction") = false := by decide +kernel
theorem ne_5_0 : (Str.ofString "told" = Str.ofString "_kept") = False := eq_false (by decide +kernel)
theorem ne_5_0b : (Str.ofString "told" == Str.ofString "_kept") = false := by decide +kernel
theorem ne_5_1 : (Str.ofString "told" = Str.ofString "_own") = False := eq_false (by decide +kernel)
theorem ne_5_1b : (Str.ofString "told" == Str.ofString "_own") = false := by decide +kernel
theorem ne_5_2 : (Str.ofString "told" = Str.ofString "_transaction") = False := eq_false (by decide +kernel)
theorem ne_5_2b : (Str.ofString "told" == Str.ofString "_transaction") = false := by decide +kernel
def top (i : Nat) : Stmt := PySem.Challenge.pw_ringloosed_k17_marks_come_home_round_a_r.main.body.getD i (.Pass ⟨0, 0, 0, 0⟩)
abbrev s_Marks_init : Stmt := inClass (top 2) 0
abbrev N_Marks_init : List Str := ["self", "transaction"]
theorem sc_Marks_init : FnScope N_Marks_init ["self", "transaction"] (defScope s_Marks_init) := ⟨rfl, rfl, rfl, by decide +kernel, rfl, by decide +kernel, by decide +kernel⟩
abbrev s_Marks_begin : Stmt := inClass (top 2) 2
abbrev N_Marks_begin : List Str := ["self", "mark"]
theorem sc_Marks_begin : FnScope N_Marks_begin ["self", "mark"] (defScope s_Marks_begin) := ⟨rfl, rfl, rfl, by decide +kernel, rfl, by decide +kernel, by decide +kernel⟩
abbrev s_Marks_take : Stmt := inClass (top 2) 4
abbrev N_Marks_take : List Str := ["self", "marks", "mark"]
theorem sc_Marks_take : FnScope N_Marks_take ["self", "marks"] (defScope s_Marks_take) := ⟨rfl, rfl, rfl, by decide +kernel, rfl, by decide +kernel, by decide +kernel⟩
abbrev s_Marks_told : Stmt := inClass (top 2) 5
abbrev N_Marks_told : List Str := ["self"]
theorem sc_Marks_told : FnScope N_Marks_told ["self"] (defScope s_Marks_told) := ⟨rfl, rfl, rfl, by decide +kernel, rfl, by decide +kernel, by decide +kernel⟩
abbrev s_law_stream : Stmt := top 4
abbrev N_law_stream : List Str := ["_law_cell", "_law_k", "_law_digits"]
theorem sc_law_stream : FnScope N_law_stream ["_law_cell", "_law_k"] (defScope s_law_stream) := ⟨rfl, rfl, rfl, by decide +kernel, rfl, by decide +kernel, by decide +kernel⟩
abbrev s_law_next : Stmt := top 5
abbrev N_law_next : List Str := ["_law_stream_here", "_law_size", "_law_drawn"]
theorem sc_law_next : FnScope N_law_next ["_law_stream_here", "_law_size"] (defScope s_law_next) := ⟨rfl, rfl, rfl, by decide +kernel, rfl, by decide +kernel, by decide +kernel⟩
abbrev s_law_transaction : Stmt := top 7
abbrev N_law_transaction : List Str := ["_law_stream_here"]
theorem sc_law_transaction : FnScope N_law_transaction ["_law_stream_here"] (defScope s_law_transaction) := ⟨rfl, rfl, rfl, by decide +kernel, rfl, by decide +kernel, by decide +kernel⟩
abbrev s_law_names : Stmt := top 9
abbrev N_law_names : List Str := ["_law_stream_here", "_law_names_here", "_law_k", "_law_name"]
theorem sc_law_names : FnScope N_law_names ["_law_stream_here"] (defScope s_law_names) := ⟨rfl, rfl, rfl, by decide +kernel, rfl, by decide +kernel, by decide +kernel⟩
abbrev s_law_next_takes : Stmt := top 10
abbrev N_law_next_takes : List Str := ["_law_rows", "_law_names_here", "_law_k", "_law_ring", "_law_other", "_law_told", "_law_mark_here"]
theorem sc_law_next_takes : FnScope N_law_next_takes ["_law_rows", "_law_names_here", "_law_k", "_law_ring"] (defScope s_law_next_takes) := ⟨rfl, rfl, rfl, by decide +kernel, rfl, by decide +kernel, by decide +kernel⟩
abbrev s_law : Stmt := top 11
abbrev N_law : List Str := ["_law_script", "_law_cell", "_law_stream_here", "_law_names_here", "_law_ring", "_law_rows", "_law_k", "_law_home", "_law_turn", "_law_order", "_law_place", "_law_came"]
theorem sc_law : FnScope N_law ["_law_script"] (defScope s_law) := ⟨rfl, rfl, rfl, by decide +kernel, rfl, by decide +kernel, by decide +kernel⟩
structure Txt (K : PySem.W.Frag) (mg : Str → Option Value) where
  C_Marks : Addr
  cl_Marks : Cls K C_Marks
  gC_Marks : mg "Marks" = some (.ref C_Marks)
  n_Marks_transaction : NoAttr K C_Marks "_transaction"
  n_Marks_own : NoAttr K C_Marks "_own"
  n_Marks_kept : NoAttr K C_Marks "_kept"
  f_Marks_init : Addr
  d_Marks_init : FuncData
  F_Marks_init : Fun K "__init__" "Marks.__init__" s_Marks_init f_Marks_init d_Marks_init
  b_Marks_init : Binds K d_Marks_init ["self", "transaction"] []
  M_Marks : Mk K C_Marks f_Marks_init
  f_Marks_begin : Addr
  d_Marks_begin : FuncData
  F_Marks_begin : Fun K "begin" "Marks.begin" s_Marks_begin f_Marks_begin d_Marks_begin
  b_Marks_begin : Binds K d_Marks_begin ["self", "mark"] []
  m_Marks_begin : Meth K C_Marks "begin" f_Marks_begin
  f_Marks_take : Addr
  d_Marks_take : FuncData
  F_Marks_take : Fun K "take" "Marks.take" s_Marks_take f_Marks_take d_Marks_take
  b_Marks_take : Binds K d_Marks_take ["self", "marks"] []
  m_Marks_take : Meth K C_Marks "take" f_Marks_take
  f_Marks_told : Addr
  d_Marks_told : FuncData
  F_Marks_told : Fun K "told" "Marks.told" s_Marks_told f_Marks_told d_Marks_told
  b_Marks_told : Binds K d_Marks_told ["self"] []
  m_Marks_told : Meth K C_Marks "told" f_Marks_told
  f_law_stream : Addr
  d_law_stream : FuncData
  F_law_stream : Fun K "_law_stream" "_law_stream" s_law_stream f_law_stream d_law_stream
  b_law_stream : Binds K d_law_stream ["_law_cell", "_law_k"] []
  g_law_stream : mg "_law_stream" = some (.ref f_law_stream)
  f_law_next : Addr
  d_law_next : FuncData
  F_law_next : Fun K "_law_next" "_law_next" s_law_next f_law_next d_law_next
  b_law_next : Binds K d_law_next ["_law_stream_here", "_law_size"] []
  g_law_next : mg "_law_next" = some (.ref f_law_next)
  f_law_transaction : Addr
  d_law_transaction : FuncData
  F_law_transaction : Fun K "_law_transaction" "_law_transaction" s_law_transaction f_law_transaction d_law_transaction
  b_law_transaction : Binds K d_law_transaction ["_law_stream_here"] []
  g_law_transaction : mg "_law_transaction" = some (.ref f_law_transaction)
  f_law_names : Addr
  d_law_names : FuncData
  F_law_names : Fun K "_law_names" "_law_names" s_law_names f_law_names d_law_names
  b_law_names : Binds K d_law_names ["_law_stream_here"] []
  g_law_names : mg "_law_names" = some (.ref f_law_names)
  f_law_next_takes : Addr
  d_law_next_takes : FuncData
  F_law_next_takes : Fun K "_law_next_takes" "_law_next_takes" s_law_next_takes f_law_next_takes d_law_next_takes
  b_law_next_takes : Binds K d_law_next_takes ["_law_rows", "_law_names_here", "_law_k", "_law_ring"] []
  g_law_next_takes : mg "_law_next_takes" = some (.ref f_law_next_takes)
  f_law : Addr
  d_law : FuncData
  F_law : Fun K "law" "law" s_law f_law d_law
  b_law : Binds K d_law ["_law_script"] []
  g_law : mg "law" = some (.ref f_law)
  z_tuple : mg "tuple" = none
  z_sorted : mg "sorted" = none
  z_int : mg "int" = none
  z_range : mg "range" = none
  z_len : mg "len" = none
  z_list : mg "list" = none
  z_max : mg "max" = none
section
variable {P : Program} {w : World} {K : PySem.W.Frag} {mg : Str → Option Value} {base : Heap}
def spLaw (K : PySem.W.Frag) : Sp := fun vs H Q _ => ∃ (a : Addr) (ns : List Int), vs = [.ref a] ∧ SqL K H a (ns.map V.int) ∧ ns.length ≤ 63 ∧ ∀ H', Q (.bl true) H'
def sp_Marks_init (C : Addr) : Sp := fun vs H Q _ => ∃ (p dx : Addr) (t : Int × Int) (tv : V), vs = [.ref p, tv] ∧ H p = some (.ins C dx []) ∧ Im H (tD t) tv ∧
  ∀ (l : Addr) (H' : Hp), H l = none → MarksAt C H' p l t none [] → Bt p p H H' → Q .non H'
theorem ok_Marks_init (T : Txt K mg) : FnOk P w K mg base CX0 1 T.f_Marks_init T.d_Marks_init ["self", "transaction"] (sp_Marks_init T.C_Marks) := by
  refine Fun.ok T.F_Marks_init sc_Marks_init (fun vs H Q E h => ?_) (fun cdv A outer s H vs Q E hr h => ?_)
  · obtain ⟨p, dx, t, tv, rfl, hp, it, kk⟩ := h; rfl
  · obtain ⟨p, dx, t, tv, rfl, hp, it, kk⟩ := h
    have hu := hu_of hr
    refine ⟨_, (pss_cons (ps_fld (pv 0) (pv 1) rfl)
      (pss_cons (ps_fld (pv 0) pe_non rfl)
      (pss_one (ps_fld (pv 0) (pe_lst pa_nil) rfl)))), ?_⟩
    (try simp only [ne_0_1, ne_0_1b, ne_0_2, ne_0_2b, ne_0_3, ne_0_3b, ne_0_4, ne_0_4b, ne_0_5, ne_0_5b, ne_1_0, ne_1_0b, ne_1_2, ne_1_2b, ne_1_3, ne_1_3b, ne_1_4, ne_1_4b, ne_1_5, ne_1_5b, ne_2_0, ne_2_0b, ne_2_1, ne_2_1b, ne_2_3, ne_2_3b, ne_2_4, ne_2_4b, ne_2_5, ne_2_5b, ne_3_0, ne_3_0b, ne_3_1, ne_3_1b, ne_3_2, ne_3_2b, ne_4_0, ne_4_0b, ne_4_1, ne_4_1b, ne_4_2, ne_4_2b, ne_5_0, ne_5_0b, ne_5_1, ne_5_1b, ne_5_2, ne_5_2b, cxOf, Cx.nox, Cx.wish, tSeq, tAsg, tC, gName, tIfS, tTest, tOp, tUn, rU, rI0, rI, tVar, tNext, tRevT, tDNewK, tBreak, tChain, iStr, tRet, tRetN, tDrop, tLst, tTup, tCons, tNil, tCB, tB, tOr, tAnd, tNot, tIf, tCall, tFor_eq, tLc_eq, iRng1, iRng2, iList, iTup, gTup, gTupH, gUnlH, gCons, gNil, gSub, rSetL, rIxL, rIxT, rIxLH, rIxTH, rSlTS, rCatS, rTupS, rIsiH, rLenS, V.ty.injEq, tyS_non, tyS_bl, tyS_int, tyS_str, tyS_ref, tyO_l, tyO_t, tyO_d, tyO_dt, kit_ll, kit_tt, kit_bb, kit_ii, kit_ib, kit_bi, kit_nt, kit_it, kit_st, kit_bt, kit_lt, kit_dt, kit_ni, kit_si, kit_ti, kit_li, kit_di, kit_nb, kit_ns, kit_is, kit_bs, kit_ss, kit_ts, kit_ls, kit_ds, kit_dd, lenS_ref, lenO_l, lenO_t,  rAppend, tM1, rIxS, tSl, tPart, tNoPart, tBM, tBM0, tDGetS, sDPutS, tTruS, truO_l, truO_t, truS_ref, truS_non, truS_bl, truS_int, tFld, sFld, sFldAug, rAdd, tMeth, tProp, tMake, tMakeK, List.take_succ_cons, List.take_zero, List.drop_succ_cons, List.drop_zero, List.take_nil, tIsN, tNotN, tAndV, tOrV, tNotV, putF, List.lookup, List.any_cons, List.any_nil, Sum.inr.injEq, HO.ins.injEq, HO.dK.injEq, eq_self, beq_self_eq_true, beq_iff_eq, decide_true, decide_false, Bool.or_true, Bool.true_or, Bool.or_false, Bool.false_or, tYes, rEq, rNe, _root_.L2.start, wipe, List.map_cons, List.map_nil, List.length_cons, List.length_nil, List.append_nil, Nat.reduceAdd, Nat.reduceSub, List.replicate_succ, List.replicate_zero, List.cons_append, List.nil_append, List.getElem?_cons_zero, List.getElem?_cons_succ, List.set_cons_zero, List.set_cons_succ, Option.some.injEq, V.int.injEq, V.ref.injEq, V.bl.injEq, V.str.injEq, List.cons.injEq, HO.lst.injEq, HO.tup.injEq, and_assoc, and_true, true_and, exists_eq_left, exists_eq_left', exists_and_left, exists_eq, reduceCtorEq, false_and, and_false, or_false, false_or, exists_false, decide_eq_true_eq, CPow, CDivW, Int.reducePow, Int.reduceLT, Int.reduceLE, Int.reduceNeg, Int.reduceToNat, Int.reduceAbs, Nat.reducePow, Nat.reduceLT, Nat.reduceLeDiff, sizeLine_eq, Int.reduceMul, Int.reduceAdd, Int.reduceSub, Bool.not_eq_true', decide_eq_false_iff_not, scal, Bool.not_true, Bool.not_false, Bool.true_eq_false, Bool.false_eq_true, ite_false, ite_true, if_true, if_false, ite_self, forall_const, atI0, atI1, atI2, atI3, ixN20, ixN21, upd_same, upd_upd, Int.zero_add, CMul, Int.reduceSub, Nat.le_refl, Nat.zero_le, or_true, true_or, exists_const, Int.sub_zero, hp, T.cl_Marks, T.n_Marks_transaction, T.n_Marks_own, T.n_Marks_kept])
    intro q hq
    obtain ⟨nqp, hq'⟩ := upd_none hq
    (try simp only [ne_0_1, ne_0_1b, ne_0_2, ne_0_2b, ne_0_3, ne_0_3b, ne_0_4, ne_0_4b, ne_0_5, ne_0_5b, ne_1_0, ne_1_0b, ne_1_2, ne_1_2b, ne_1_3, ne_1_3b, ne_1_4, ne_1_4b, ne_1_5, ne_1_5b, ne_2_0, ne_2_0b, ne_2_1, ne_2_1b, ne_2_3, ne_2_3b, ne_2_4, ne_2_4b, ne_2_5, ne_2_5b, ne_3_0, ne_3_0b, ne_3_1, ne_3_1b, ne_3_2, ne_3_2b, ne_4_0, ne_4_0b, ne_4_1, ne_4_1b, ne_4_2, ne_4_2b, ne_5_0, ne_5_0b, ne_5_1, ne_5_1b, ne_5_2, ne_5_2b, cxOf, Cx.nox, Cx.wish, tSeq, tAsg, tC, gName, tIfS, tTest, tOp, tUn, rU, rI0, rI, tVar, tNext, tRevT, tDNewK, tBreak, tChain, iStr, tRet, tRetN, tDrop, tLst, tTup, tCons, tNil, tCB, tB, tOr, tAnd, tNot, tIf, tCall, tFor_eq, tLc_eq, iRng1, iRng2, iList, iTup, gTup, gTupH, gUnlH, gCons, gNil, gSub, rSetL, rIxL, rIxT, rIxLH, rIxTH, rSlTS, rCatS, rTupS, rIsiH, rLenS, V.ty.injEq, tyS_non, tyS_bl, tyS_int, tyS_str, tyS_ref, tyO_l, tyO_t, tyO_d, tyO_dt, kit_ll, kit_tt, kit_bb, kit_ii, kit_ib, kit_bi, kit_nt, kit_it, kit_st, kit_bt, kit_lt, kit_dt, kit_ni, kit_si, kit_ti, kit_li, kit_di, kit_nb, kit_ns, kit_is, kit_bs, kit_ss, kit_ts, kit_ls, kit_ds, kit_dd, lenS_ref, lenO_l, lenO_t,  rAppend, tM1, rIxS, tSl, tPart, tNoPart, tBM, tBM0, tDGetS, sDPutS, tTruS, truO_l, truO_t, truS_ref, truS_non, truS_bl, truS_int, tFld, sFld, sFldAug, rAdd, tMeth, tProp, tMake, tMakeK, List.take_succ_cons, List.take_zero, List.drop_succ_cons, List.drop_zero, List.take_nil, tIsN, tNotN, tAndV, tOrV, tNotV, putF, List.lookup, List.any_cons, List.any_nil, Sum.inr.injEq, HO.ins.injEq, HO.dK.injEq, eq_self, beq_self_eq_true, beq_iff_eq, decide_true, decide_false, Bool.or_true, Bool.true_or, Bool.or_false, Bool.false_or, tYes, rEq, rNe, _root_.L2.start, wipe, List.map_cons, List.map_nil, List.length_cons, List.length_nil, List.append_nil, Nat.reduceAdd, Nat.reduceSub, List.replicate_succ, List.replicate_zero, List.cons_append, List.nil_append, List.getElem?_cons_zero, List.getElem?_cons_succ, List.set_cons_zero, List.set_cons_succ, Option.some.injEq, V.int.injEq, V.ref.injEq, V.bl.injEq, V.str.injEq, List.cons.injEq, HO.lst.injEq, HO.tup.injEq, and_assoc, and_true, true_and, exists_eq_left, exists_eq_left', exists_and_left, exists_eq, reduceCtorEq, false_and, and_false, or_false, false_or, exists_false, decide_eq_true_eq, CPow, CDivW, Int.reducePow, Int.reduceLT, Int.reduceLE, Int.reduceNeg, Int.reduceToNat, Int.reduceAbs, Nat.reducePow, Nat.reduceLT, Nat.reduceLeDiff, sizeLine_eq, Int.reduceMul, Int.reduceAdd, Int.reduceSub, Bool.not_eq_true', decide_eq_false_iff_not, scal, Bool.not_true, Bool.not_false, Bool.true_eq_false, Bool.false_eq_true, ite_false, ite_true, if_true, if_false, ite_self, forall_const, atI0, atI1, atI2, atI3, ixN20, ixN21, upd_same, upd_upd, Int.zero_add, CMul, Int.reduceSub, Nat.le_refl, Nat.zero_le, or_true, true_or, exists_const, Int.sub_zero, upd_ne nqp.symm, T.cl_Marks, T.n_Marks_kept])
    refine kk q _ hq' ⟨dx, tv, .non, [], upd_same, imIns (by rw [upd_ne nqp.symm]; exact upd_same) (imNew hq (imIns hp it)), im_non, ?_, im_nil⟩ (Bt.putP (Bt.new (Bt.putP (Bt.refl _ _ _)) hq))
    rw [upd_ne nqp]; exact upd_same
def sp_Marks_begin (C : Addr) : Sp := fun vs H Q _ => ∃ (p l : Addr) (t : Int × Int) (own : Option Mrk) (kept : List Mrk) (m : Mrk) (mv : V), vs = [.ref p, mv] ∧ MarksAt C H p l t own kept ∧ Im H (mD m) mv ∧
  ∀ (l' : Addr) (H' : Hp), H l' = none → MarksAt C H' p l' t (some m) [] → Bt p p H H' → Q .non H'
theorem ok_Marks_begin (T : Txt K mg) : FnOk P w K mg base CX0 1 T.f_Marks_begin T.d_Marks_begin ["self", "mark"] (sp_Marks_begin T.C_Marks) := by
  refine Fun.ok T.F_Marks_begin sc_Marks_begin (fun vs H Q E h => ?_) (fun cdv A outer s H vs Q E hr h => ?_)
  · obtain ⟨p, l, t, own, kept, m, mv, rfl, ⟨dx, tv, ov, ws, hp, it, io, hl, iw⟩, im, kk⟩ := h; rfl
  · obtain ⟨p, l, t, own, kept, m, mv, rfl, ⟨dx, tv, ov, ws, hp, it, io, hl, iw⟩, im, kk⟩ := h
    have hu := hu_of hr
    refine ⟨_, (pss_cons (ps_fld (pv 0) (pv 1) rfl)
      (pss_one (ps_fld (pv 0) (pe_lst pa_nil) rfl))), ?_⟩
    (try simp only [ne_0_1, ne_0_1b, ne_0_2, ne_0_2b, ne_0_3, ne_0_3b, ne_0_4, ne_0_4b, ne_0_5, ne_0_5b, ne_1_0, ne_1_0b, ne_1_2, ne_1_2b, ne_1_3, ne_1_3b, ne_1_4, ne_1_4b, ne_1_5, ne_1_5b, ne_2_0, ne_2_0b, ne_2_1, ne_2_1b, ne_2_3, ne_2_3b, ne_2_4, ne_2_4b, ne_2_5, ne_2_5b, ne_3_0, ne_3_0b, ne_3_1, ne_3_1b, ne_3_2, ne_3_2b, ne_4_0, ne_4_0b, ne_4_1, ne_4_1b, ne_4_2, ne_4_2b, ne_5_0, ne_5_0b, ne_5_1, ne_5_1b, ne_5_2, ne_5_2b, cxOf, Cx.nox, Cx.wish, tSeq, tAsg, tC, gName, tIfS, tTest, tOp, tUn, rU, rI0, rI, tVar, tNext, tRevT, tDNewK, tBreak, tChain, iStr, tRet, tRetN, tDrop, tLst, tTup, tCons, tNil, tCB, tB, tOr, tAnd, tNot, tIf, tCall, tFor_eq, tLc_eq, iRng1, iRng2, iList, iTup, gTup, gTupH, gUnlH, gCons, gNil, gSub, rSetL, rIxL, rIxT, rIxLH, rIxTH, rSlTS, rCatS, rTupS, rIsiH, rLenS, V.ty.injEq, tyS_non, tyS_bl, tyS_int, tyS_str, tyS_ref, tyO_l, tyO_t, tyO_d, tyO_dt, kit_ll, kit_tt, kit_bb, kit_ii, kit_ib, kit_bi, kit_nt, kit_it, kit_st, kit_bt, kit_lt, kit_dt, kit_ni, kit_si, kit_ti, kit_li, kit_di, kit_nb, kit_ns, kit_is, kit_bs, kit_ss, kit_ts, kit_ls, kit_ds, kit_dd, lenS_ref, lenO_l, lenO_t,  rAppend, tM1, rIxS, tSl, tPart, tNoPart, tBM, tBM0, tDGetS, sDPutS, tTruS, truO_l, truO_t, truS_ref, truS_non, truS_bl, truS_int, tFld, sFld, sFldAug, rAdd, tMeth, tProp, tMake, tMakeK, List.take_succ_cons, List.take_zero, List.drop_succ_cons, List.drop_zero, List.take_nil, tIsN, tNotN, tAndV, tOrV, tNotV, putF, List.lookup, List.any_cons, List.any_nil, Sum.inr.injEq, HO.ins.injEq, HO.dK.injEq, eq_self, beq_self_eq_true, beq_iff_eq, decide_true, decide_false, Bool.or_true, Bool.true_or, Bool.or_false, Bool.false_or, tYes, rEq, rNe, _root_.L2.start, wipe, List.map_cons, List.map_nil, List.length_cons, List.length_nil, List.append_nil, Nat.reduceAdd, Nat.reduceSub, List.replicate_succ, List.replicate_zero, List.cons_append, List.nil_append, List.getElem?_cons_zero, List.getElem?_cons_succ, List.set_cons_zero, List.set_cons_succ, Option.some.injEq, V.int.injEq, V.ref.injEq, V.bl.injEq, V.str.injEq, List.cons.injEq, HO.lst.injEq, HO.tup.injEq, and_assoc, and_true, true_and, exists_eq_left, exists_eq_left', exists_and_left, exists_eq, reduceCtorEq, false_and, and_false, or_false, false_or, exists_false, decide_eq_true_eq, CPow, CDivW, Int.reducePow, Int.reduceLT, Int.reduceLE, Int.reduceNeg, Int.reduceToNat, Int.reduceAbs, Nat.reducePow, Nat.reduceLT, Nat.reduceLeDiff, sizeLine_eq, Int.reduceMul, Int.reduceAdd, Int.reduceSub, Bool.not_eq_true', decide_eq_false_iff_not, scal, Bool.not_true, Bool.not_false, Bool.true_eq_false, Bool.false_eq_true, ite_false, ite_true, if_true, if_false, ite_self, forall_const, atI0, atI1, atI2, atI3, ixN20, ixN21, upd_same, upd_upd, Int.zero_add, CMul, Int.reduceSub, Nat.le_refl, Nat.zero_le, or_true, true_or, exists_const, Int.sub_zero, hp, T.cl_Marks, T.n_Marks_own, T.n_Marks_kept, mkF])
    intro q hq
    obtain ⟨nqp, hq'⟩ := upd_none hq
    (try simp only [ne_0_1, ne_0_1b, ne_0_2, ne_0_2b, ne_0_3, ne_0_3b, ne_0_4, ne_0_4b, ne_0_5, ne_0_5b, ne_1_0, ne_1_0b, ne_1_2, ne_1_2b, ne_1_3, ne_1_3b, ne_1_4, ne_1_4b, ne_1_5, ne_1_5b, ne_2_0, ne_2_0b, ne_2_1, ne_2_1b, ne_2_3, ne_2_3b, ne_2_4, ne_2_4b, ne_2_5, ne_2_5b, ne_3_0, ne_3_0b, ne_3_1, ne_3_1b, ne_3_2, ne_3_2b, ne_4_0, ne_4_0b, ne_4_1, ne_4_1b, ne_4_2, ne_4_2b, ne_5_0, ne_5_0b, ne_5_1, ne_5_1b, ne_5_2, ne_5_2b, cxOf, Cx.nox, Cx.wish, tSeq, tAsg, tC, gName, tIfS, tTest, tOp, tUn, rU, rI0, rI, tVar, tNext, tRevT, tDNewK, tBreak, tChain, iStr, tRet, tRetN, tDrop, tLst, tTup, tCons, tNil, tCB, tB, tOr, tAnd, tNot, tIf, tCall, tFor_eq, tLc_eq, iRng1, iRng2, iList, iTup, gTup, gTupH, gUnlH, gCons, gNil, gSub, rSetL, rIxL, rIxT, rIxLH, rIxTH, rSlTS, rCatS, rTupS, rIsiH, rLenS, V.ty.injEq, tyS_non, tyS_bl, tyS_int, tyS_str, tyS_ref, tyO_l, tyO_t, tyO_d, tyO_dt, kit_ll, kit_tt, kit_bb, kit_ii, kit_ib, kit_bi, kit_nt, kit_it, kit_st, kit_bt, kit_lt, kit_dt, kit_ni, kit_si, kit_ti, kit_li, kit_di, kit_nb, kit_ns, kit_is, kit_bs, kit_ss, kit_ts, kit_ls, kit_ds, kit_dd, lenS_ref, lenO_l, lenO_t,  rAppend, tM1, rIxS, tSl, tPart, tNoPart, tBM, tBM0, tDGetS, sDPutS, tTruS, truO_l, truO_t, truS_ref, truS_non, truS_bl, truS_int, tFld, sFld, sFldAug, rAdd, tMeth, tProp, tMake, tMakeK, List.take_succ_cons, List.take_zero, List.drop_succ_cons, List.drop_zero, List.take_nil, tIsN, tNotN, tAndV, tOrV, tNotV, putF, List.lookup, List.any_cons, List.any_nil, Sum.inr.injEq, HO.ins.injEq, HO.dK.injEq, eq_self, beq_self_eq_true, beq_iff_eq, decide_true, decide_false, Bool.or_true, Bool.true_or, Bool.or_false, Bool.false_or, tYes, rEq, rNe, _root_.L2.start, wipe, List.map_cons, List.map_nil, List.length_cons, List.length_nil, List.append_nil, Nat.reduceAdd, Nat.reduceSub, List.replicate_succ, List.replicate_zero, List.cons_append, List.nil_append, List.getElem?_cons_zero, List.getElem?_cons_succ, List.set_cons_zero, List.set_cons_succ, Option.some.injEq, V.int.injEq, V.ref.injEq, V.bl.injEq, V.str.injEq, List.cons.injEq, HO.lst.injEq, HO.tup.injEq, and_assoc, and_true, true_and, exists_eq_left, exists_eq_left', exists_and_left, exists_eq, reduceCtorEq, false_and, and_false, or_false, false_or, exists_false, decide_eq_true_eq, CPow, CDivW, Int.reducePow, Int.reduceLT, Int.reduceLE, Int.reduceNeg, Int.reduceToNat, Int.reduceAbs, Nat.reducePow, Nat.reduceLT, Nat.reduceLeDiff, sizeLine_eq, Int.reduceMul, Int.reduceAdd, Int.reduceSub, Bool.not_eq_true', decide_eq_false_iff_not, scal, Bool.not_true, Bool.not_false, Bool.true_eq_false, Bool.false_eq_true, ite_false, ite_true, if_true, if_false, ite_self, forall_const, atI0, atI1, atI2, atI3, ixN20, ixN21, upd_same, upd_upd, Int.zero_add, CMul, Int.reduceSub, Nat.le_refl, Nat.zero_le, or_true, true_or, exists_const, Int.sub_zero, upd_ne nqp.symm, T.cl_Marks, T.n_Marks_kept])
    refine kk q _ hq' ⟨dx, tv, mv, [], upd_same, imIns (by rw [upd_ne nqp.symm]; exact upd_same) (imNew hq (imIns hp it)), imIns (by rw [upd_ne nqp.symm]; exact upd_same) (imNew hq (imIns hp im)), ?_, im_nil⟩ (Bt.putP (Bt.new (Bt.putP (Bt.refl _ _ _)) hq))
    rw [upd_ne nqp]; exact upd_same
def sp_Marks_take (C : Addr) : Sp := fun vs H Q _ => ∃ (p l : Addr) (t : Int × Int) (own : Mrk) (kept ms : List Mrk) (v : V), vs = [.ref p, v] ∧ MarksAt C H p l t (some own) kept ∧ Im H (.tuple (ms.map mD)) v ∧ ms.length ≤ 1000 ∧ kept.length ≤ 100000 ∧
  ∀ (H' : Hp), MarksAt C H' p l t (some own) (takeS t own kept ms) → Bt p l H H' → Q (.bl (decide (own ∈ ms))) H'
theorem ok_Marks_take (T : Txt K mg) : FnOk P w K mg base CX0 1 T.f_Marks_take T.d_Marks_take ["self", "marks"] (sp_Marks_take T.C_Marks) := by
  refine Fun.ok T.F_Marks_take sc_Marks_take (fun vs H Q E h => ?_) (fun cdv A outer s H vs Q E hr h => ?_)
  · obtain ⟨p, l, t, own, kept, ms, v, rfl, ⟨dx, tv, ov, ws, hp, it, io, hl, iw⟩, iv, hms, hkl, kk⟩ := h; rfl
  · obtain ⟨p, l, t, own, kept, ms, v, rfl, ⟨dx, tv, ov, ws, hp, it, io, hl, iw⟩, iv, hms, hkl, kk⟩ := h
    have hu := hu_of hr
    refine ⟨_, (pss_cons (ps_if (pt_cmpR (op_inTK (K := K) rfl (hu65 hr)) (pe_fld (pv 0) rfl) (pv 1) (by rfl)) (pss_one (ps_ret pe_bl)) pss_nil)
      (pss_cons (ps_for PassesOwn.never rfl (pi_tup (pv 1)) (pg_name (i := 2) sc_Marks_take.nd rfl (Or.inl rfl))
      (pss_one (ps_if (PW.pt (pw_and (pt_cmpR (op_gtA (K := K) rfl (hu65 hr)) (pe_ix ix_tupH (pv 2) pe_int (fun _ _ => rfl)) (pe_fld (pv 0) rfl) (nomark _)) (pw_and1 (pt_cmpR (op_notInDK (K := K) rfl (hu65 hr)) (pv 2) (pe_fld (pv 0) rfl) (by rfl))))) (pss_one (ps_expr (pe_bm PySem.F.plainAttrs_list PySem.F.slot_list_append PySem.F.type_list_append mt_append (pe_fld (pv 0) rfl) (pa_cons (pv 2) pa_nil)))) pss_nil)))
      (pss_one (ps_ret pe_bl)))), ?_⟩
    obtain ⟨q, xs, rfl, hq, ix⟩ := im_tupE iv
    (try simp only [ne_0_1, ne_0_1b, ne_0_2, ne_0_2b, ne_0_3, ne_0_3b, ne_0_4, ne_0_4b, ne_0_5, ne_0_5b, ne_1_0, ne_1_0b, ne_1_2, ne_1_2b, ne_1_3, ne_1_3b, ne_1_4, ne_1_4b, ne_1_5, ne_1_5b, ne_2_0, ne_2_0b, ne_2_1, ne_2_1b, ne_2_3, ne_2_3b, ne_2_4, ne_2_4b, ne_2_5, ne_2_5b, ne_3_0, ne_3_0b, ne_3_1, ne_3_1b, ne_3_2, ne_3_2b, ne_4_0, ne_4_0b, ne_4_1, ne_4_1b, ne_4_2, ne_4_2b, ne_5_0, ne_5_0b, ne_5_1, ne_5_1b, ne_5_2, ne_5_2b, cxOf, Cx.nox, Cx.wish, tSeq, tAsg, tC, gName, tIfS, tTest, tOp, tUn, rU, rI0, rI, tVar, tNext, tRevT, tDNewK, tBreak, tChain, iStr, tRet, tRetN, tDrop, tLst, tTup, tCons, tNil, tCB, tB, tOr, tAnd, tNot, tIf, tCall, tFor_eq, tLc_eq, iRng1, iRng2, iList, iTup, gTup, gTupH, gUnlH, gCons, gNil, gSub, rSetL, rIxL, rIxT, rIxLH, rIxTH, rSlTS, rCatS, rTupS, rIsiH, rLenS, V.ty.injEq, tyS_non, tyS_bl, tyS_int, tyS_str, tyS_ref, tyO_l, tyO_t, tyO_d, tyO_dt, kit_ll, kit_tt, kit_bb, kit_ii, kit_ib, kit_bi, kit_nt, kit_it, kit_st, kit_bt, kit_lt, kit_dt, kit_ni, kit_si, kit_ti, kit_li, kit_di, kit_nb, kit_ns, kit_is, kit_bs, kit_ss, kit_ts, kit_ls, kit_ds, kit_dd, lenS_ref, lenO_l, lenO_t,  rAppend, tM1, rIxS, tSl, tPart, tNoPart, tBM, tBM0, tDGetS, sDPutS, tTruS, truO_l, truO_t, truS_ref, truS_non, truS_bl, truS_int, tFld, sFld, sFldAug, rAdd, tMeth, tProp, tMake, tMakeK, List.take_succ_cons, List.take_zero, List.drop_succ_cons, List.drop_zero, List.take_nil, tIsN, tNotN, tAndV, tOrV, tNotV, putF, List.lookup, List.any_cons, List.any_nil, Sum.inr.injEq, HO.ins.injEq, HO.dK.injEq, eq_self, beq_self_eq_true, beq_iff_eq, decide_true, decide_false, Bool.or_true, Bool.true_or, Bool.or_false, Bool.false_or, tYes, rEq, rNe, _root_.L2.start, wipe, List.map_cons, List.map_nil, List.length_cons, List.length_nil, List.append_nil, Nat.reduceAdd, Nat.reduceSub, List.replicate_succ, List.replicate_zero, List.cons_append, List.nil_append, List.getElem?_cons_zero, List.getElem?_cons_succ, List.set_cons_zero, List.set_cons_succ, Option.some.injEq, V.int.injEq, V.ref.injEq, V.bl.injEq, V.str.injEq, List.cons.injEq, HO.lst.injEq, HO.tup.injEq, and_assoc, and_true, true_and, exists_eq_left, exists_eq_left', exists_and_left, exists_eq, reduceCtorEq, false_and, and_false, or_false, false_or, exists_false, decide_eq_true_eq, CPow, CDivW, Int.reducePow, Int.reduceLT, Int.reduceLE, Int.reduceNeg, Int.reduceToNat, Int.reduceAbs, Nat.reducePow, Nat.reduceLT, Nat.reduceLeDiff, sizeLine_eq, Int.reduceMul, Int.reduceAdd, Int.reduceSub, Bool.not_eq_true', decide_eq_false_iff_not, scal, Bool.not_true, Bool.not_false, Bool.true_eq_false, Bool.false_eq_true, ite_false, ite_true, if_true, if_false, ite_self, forall_const, atI0, atI1, atI2, atI3, ixN20, ixN21, upd_same, upd_upd, Int.zero_add, CMul, Int.reduceSub, Nat.le_refl, Nat.zero_le, or_true, true_or, exists_const, Int.sub_zero, hp, T.cl_Marks, T.n_Marks_own, T.n_Marks_kept, T.n_Marks_transaction, mkF, rInDT])
    refine ⟨_, Im.dp _ _ io, _, .tup (SqT.of hq) (ImAll.dp _ _ ix), oD_shaped _, mDs_shapedT _, ?_⟩
    rw [show oD (some own) = mD own from rfl, mDs_any]
    have hts : own ∈ ms → takeS t own kept ms = kept := fun h => by unfold takeS; rw [if_pos h]
    have htf : own ∉ ms → takeS t own kept ms = ms.foldl (kept1 t) kept := fun h => by unfold takeS; rw [if_neg h]
    by_cases ho : own ∈ ms
    · rw [if_pos (decide_eq_true ho)]
      rw [hts ho, decide_eq_true ho] at kk
      exact kk H ⟨dx, tv, ov, ws, hp, it, io, hl, iw⟩ (Bt.refl _ _ _)
    rw [if_neg (by simpa using ho)]
    rw [htf ho, decide_eq_false ho] at kk
    have nlp : p ≠ l := ne_il hp hl
    have nlq : q ≠ l := fun z => by subst z; rw [hl] at hq; cases hq
    refine ⟨⟨_, SqT.of hq⟩, Loop.tup xs (fun i σ H' => ∃ b2 ws', σ = [some (.ref p), some (.ref q), b2] ∧ H' l = some (.lst ws') ∧ ImAll H' (((ms.take i).foldl (kept1 t) kept).map mD) ws' ∧ Tk H H' ∧ ∀ b, b ≠ l → H' b = H b) ⟨none, ws, rfl, hl, iw, Tk.refl _, fun _ _ => rfl⟩ ?_ ?_ ?_⟩
    · rintro i σ H1 _ ⟨b2, ws1, rfl, hl1, iw1, tk1, fr⟩
      exact SqT.of (tk1 _ _ hq)
    · rintro i x σ H1 hx ⟨b2, ws1, rfl, hl1, iw1, tk1, fr⟩
      obtain ⟨m, hm, im0⟩ := ims_mk ix hx
      have im1 := Im.mono tk1 _ _ im0
      obtain ⟨a, tm, km, rfl, ha, itm, _⟩ := mD_at im1
      have hp1 : H1 p = some (.ins T.C_Marks dx (mkF tv ov l)) := (fr p nlp).trans hp
      (try simp only [ne_0_1, ne_0_1b, ne_0_2, ne_0_2b, ne_0_3, ne_0_3b, ne_0_4, ne_0_4b, ne_0_5, ne_0_5b, ne_1_0, ne_1_0b, ne_1_2, ne_1_2b, ne_1_3, ne_1_3b, ne_1_4, ne_1_4b, ne_1_5, ne_1_5b, ne_2_0, ne_2_0b, ne_2_1, ne_2_1b, ne_2_3, ne_2_3b, ne_2_4, ne_2_4b, ne_2_5, ne_2_5b, ne_3_0, ne_3_0b, ne_3_1, ne_3_1b, ne_3_2, ne_3_2b, ne_4_0, ne_4_0b, ne_4_1, ne_4_1b, ne_4_2, ne_4_2b, ne_5_0, ne_5_0b, ne_5_1, ne_5_1b, ne_5_2, ne_5_2b, cxOf, Cx.nox, Cx.wish, tSeq, tAsg, tC, gName, tIfS, tTest, tOp, tUn, rU, rI0, rI, tVar, tNext, tRevT, tDNewK, tBreak, tChain, iStr, tRet, tRetN, tDrop, tLst, tTup, tCons, tNil, tCB, tB, tOr, tAnd, tNot, tIf, tCall, tFor_eq, tLc_eq, iRng1, iRng2, iList, iTup, gTup, gTupH, gUnlH, gCons, gNil, gSub, rSetL, rIxL, rIxT, rIxLH, rIxTH, rSlTS, rCatS, rTupS, rIsiH, rLenS, V.ty.injEq, tyS_non, tyS_bl, tyS_int, tyS_str, tyS_ref, tyO_l, tyO_t, tyO_d, tyO_dt, kit_ll, kit_tt, kit_bb, kit_ii, kit_ib, kit_bi, kit_nt, kit_it, kit_st, kit_bt, kit_lt, kit_dt, kit_ni, kit_si, kit_ti, kit_li, kit_di, kit_nb, kit_ns, kit_is, kit_bs, kit_ss, kit_ts, kit_ls, kit_ds, kit_dd, lenS_ref, lenO_l, lenO_t,  rAppend, tM1, rIxS, tSl, tPart, tNoPart, tBM, tBM0, tDGetS, sDPutS, tTruS, truO_l, truO_t, truS_ref, truS_non, truS_bl, truS_int, tFld, sFld, sFldAug, rAdd, tMeth, tProp, tMake, tMakeK, List.take_succ_cons, List.take_zero, List.drop_succ_cons, List.drop_zero, List.take_nil, tIsN, tNotN, tAndV, tOrV, tNotV, putF, List.lookup, List.any_cons, List.any_nil, Sum.inr.injEq, HO.ins.injEq, HO.dK.injEq, eq_self, beq_self_eq_true, beq_iff_eq, decide_true, decide_false, Bool.or_true, Bool.true_or, Bool.or_false, Bool.false_or, tYes, rEq, rNe, _root_.L2.start, wipe, List.map_cons, List.map_nil, List.length_cons, List.length_nil, List.append_nil, Nat.reduceAdd, Nat.reduceSub, List.replicate_succ, List.replicate_zero, List.cons_append, List.nil_append, List.getElem?_cons_zero, List.getElem?_cons_succ, List.set_cons_zero, List.set_cons_succ, Option.some.injEq, V.int.injEq, V.ref.injEq, V.bl.injEq, V.str.injEq, List.cons.injEq, HO.lst.injEq, HO.tup.injEq, and_assoc, and_true, true_and, exists_eq_left, exists_eq_left', exists_and_left, exists_eq, reduceCtorEq, false_and, and_false, or_false, false_or, exists_false, decide_eq_true_eq, CPow, CDivW, Int.reducePow, Int.reduceLT, Int.reduceLE, Int.reduceNeg, Int.reduceToNat, Int.reduceAbs, Nat.reducePow, Nat.reduceLT, Nat.reduceLeDiff, sizeLine_eq, Int.reduceMul, Int.reduceAdd, Int.reduceSub, Bool.not_eq_true', decide_eq_false_iff_not, scal, Bool.not_true, Bool.not_false, Bool.true_eq_false, Bool.false_eq_true, ite_false, ite_true, if_true, if_false, ite_self, forall_const, atI0, atI1, atI2, atI3, ixN20, ixN21, upd_same, upd_upd, Int.zero_add, CMul, Int.reduceSub, Nat.le_refl, Nat.zero_le, or_true, true_or, exists_const, Int.sub_zero, ha, hp1, mkF, T.cl_Marks, T.n_Marks_kept, T.n_Marks_transaction, rGtA, rNotInD, hl1])
      refine ⟨_, Im.dp _ _ itm, _, Im.dp _ _ (Im.mono tk1 _ _ it), tD_alike _ _, by simp [tD], by rw [tD_depth]; decide, ?_⟩
      rw [take_foldl hm, show PySem.W.dataLt (tD t) (tD m.t) = gtM m t from rfl]
      have hwl := iw1.len
      rw [List.length_map] at hwl
      have hkn := keptN_len t (ms.take i) kept
      rw [List.length_take] at hkn
      generalize List.foldl (kept1 t) kept (List.take i ms) = kp at iw1 hwl hkn
      by_cases hg : gtM m t = true
      · rw [if_pos hg]
        refine ⟨_, Im.dp _ _ im1, _, .lst (SqL.of hl1) (ImAll.dp _ _ iw1), mD_shaped _, mDs_shaped _, ?_⟩
        rw [mDs_any]
        by_cases hk : m ∈ kp
        · rw [if_neg (by simpa using hk)]
          rw [show kept1 t kp m = kp from by unfold kept1; rw [if_neg fun z => z.2 hk]]
          exact ⟨iw1, tk1, fr⟩
        · rw [if_pos (by simpa using hk)]
          rw [show kept1 t kp m = kp ++ [m] from by unfold kept1; rw [if_pos ⟨hg, hk⟩], List.map_append]
          exact ⟨tyL hl1, by omega, ims_app hl1 iw1 im1, tk1.trans (Tk.put hl1), fun b nb => (upd_ne nb).trans (fr b nb)⟩
      · rw [if_neg hg]
        rw [show kept1 t kp m = kp from by unfold kept1; rw [if_neg fun z => hg z.1]]
        exact ⟨iw1, tk1, fr⟩
    · rintro σ H1 ⟨b2, ws1, rfl, hl1, iw1, tk1, fr⟩
      (try simp only [ne_0_1, ne_0_1b, ne_0_2, ne_0_2b, ne_0_3, ne_0_3b, ne_0_4, ne_0_4b, ne_0_5, ne_0_5b, ne_1_0, ne_1_0b, ne_1_2, ne_1_2b, ne_1_3, ne_1_3b, ne_1_4, ne_1_4b, ne_1_5, ne_1_5b, ne_2_0, ne_2_0b, ne_2_1, ne_2_1b, ne_2_3, ne_2_3b, ne_2_4, ne_2_4b, ne_2_5, ne_2_5b, ne_3_0, ne_3_0b, ne_3_1, ne_3_1b, ne_3_2, ne_3_2b, ne_4_0, ne_4_0b, ne_4_1, ne_4_1b, ne_4_2, ne_4_2b, ne_5_0, ne_5_0b, ne_5_1, ne_5_1b, ne_5_2, ne_5_2b, cxOf, Cx.nox, Cx.wish, tSeq, tAsg, tC, gName, tIfS, tTest, tOp, tUn, rU, rI0, rI, tVar, tNext, tRevT, tDNewK, tBreak, tChain, iStr, tRet, tRetN, tDrop, tLst, tTup, tCons, tNil, tCB, tB, tOr, tAnd, tNot, tIf, tCall, tFor_eq, tLc_eq, iRng1, iRng2, iList, iTup, gTup, gTupH, gUnlH, gCons, gNil, gSub, rSetL, rIxL, rIxT, rIxLH, rIxTH, rSlTS, rCatS, rTupS, rIsiH, rLenS, V.ty.injEq, tyS_non, tyS_bl, tyS_int, tyS_str, tyS_ref, tyO_l, tyO_t, tyO_d, tyO_dt, kit_ll, kit_tt, kit_bb, kit_ii, kit_ib, kit_bi, kit_nt, kit_it, kit_st, kit_bt, kit_lt, kit_dt, kit_ni, kit_si, kit_ti, kit_li, kit_di, kit_nb, kit_ns, kit_is, kit_bs, kit_ss, kit_ts, kit_ls, kit_ds, kit_dd, lenS_ref, lenO_l, lenO_t,  rAppend, tM1, rIxS, tSl, tPart, tNoPart, tBM, tBM0, tDGetS, sDPutS, tTruS, truO_l, truO_t, truS_ref, truS_non, truS_bl, truS_int, tFld, sFld, sFldAug, rAdd, tMeth, tProp, tMake, tMakeK, List.take_succ_cons, List.take_zero, List.drop_succ_cons, List.drop_zero, List.take_nil, tIsN, tNotN, tAndV, tOrV, tNotV, putF, List.lookup, List.any_cons, List.any_nil, Sum.inr.injEq, HO.ins.injEq, HO.dK.injEq, eq_self, beq_self_eq_true, beq_iff_eq, decide_true, decide_false, Bool.or_true, Bool.true_or, Bool.or_false, Bool.false_or, tYes, rEq, rNe, _root_.L2.start, wipe, List.map_cons, List.map_nil, List.length_cons, List.length_nil, List.append_nil, Nat.reduceAdd, Nat.reduceSub, List.replicate_succ, List.replicate_zero, List.cons_append, List.nil_append, List.getElem?_cons_zero, List.getElem?_cons_succ, List.set_cons_zero, List.set_cons_succ, Option.some.injEq, V.int.injEq, V.ref.injEq, V.bl.injEq, V.str.injEq, List.cons.injEq, HO.lst.injEq, HO.tup.injEq, and_assoc, and_true, true_and, exists_eq_left, exists_eq_left', exists_and_left, exists_eq, reduceCtorEq, false_and, and_false, or_false, false_or, exists_false, decide_eq_true_eq, CPow, CDivW, Int.reducePow, Int.reduceLT, Int.reduceLE, Int.reduceNeg, Int.reduceToNat, Int.reduceAbs, Nat.reducePow, Nat.reduceLT, Nat.reduceLeDiff, sizeLine_eq, Int.reduceMul, Int.reduceAdd, Int.reduceSub, Bool.not_eq_true', decide_eq_false_iff_not, scal, Bool.not_true, Bool.not_false, Bool.true_eq_false, Bool.false_eq_true, ite_false, ite_true, if_true, if_false, ite_self, forall_const, atI0, atI1, atI2, atI3, ixN20, ixN21, upd_same, upd_upd, Int.zero_add, CMul, Int.reduceSub, Nat.le_refl, Nat.zero_le, or_true, true_or, exists_const, Int.sub_zero])
      rw [List.take_of_length_le (by rw [ix.len, List.length_map]; exact Nat.le_refl _)] at iw1
      exact kk H1 ⟨dx, tv, ov, ws1, (fr p nlp).trans hp, Im.mono tk1 _ _ it, Im.mono tk1 _ _ io, hl1, iw1⟩ ⟨fun b o e n1 n2 => (fr b n2).trans e, fun b e => by
        by_cases z : b = l
        · subst z; rw [hl1] at e; cases e
        · rw [fr b z] at e; exact e⟩
def sp_Marks_told (C : Addr) : Sp := fun vs H Q _ => ∃ (p l : Addr) (t : Int × Int) (own : Option Mrk) (kept : List Mrk), vs = [.ref p] ∧ MarksAt C H p l t own kept ∧ kept.length ≤ 100000 ∧ ∀ (q : Addr) (zs : List V) (H' : Hp), H' q = some (.tup zs) → ImAll H' (toldD own kept) zs → Same H H' → Q (.ref q) H'
theorem ok_Marks_told (T : Txt K mg) : FnOk P w K mg base CX0 1 T.f_Marks_told T.d_Marks_told ["self"] (sp_Marks_told T.C_Marks) := by
  refine Fun.ok T.F_Marks_told sc_Marks_told (fun vs H Q E h => ?_) (fun cdv A outer s H vs Q E hr h => ?_)
  · obtain ⟨p, l, t, own, kept, rfl, ⟨dx, tv, ov, ws, hp, it, io, hl, iw⟩, hkl, kk⟩ := h; rfl
  · obtain ⟨p, l, t, own, kept, rfl, ⟨dx, tv, ov, ws, hp, it, io, hl, iw⟩, hkl, kk⟩ := h
    have hu := hu_of hr
    refine ⟨_, (pss_cons (ps_if (pt_cmp (pc_isN (pe_fld (pv 0) rfl))) (pss_one (ps_ret (pe_tup pa_nil))) pss_nil)
      (pss_one (ps_ret (pe_callTy call_tupS (by rfl) T.z_tuple (by decide +kernel) (pa_cons (pe_callB (call_sortD (hu65 hr)) (by rfl) T.z_sorted (by decide +kernel) (pa_cons (pe_op op_cat (pe_fld (pv 0) rfl) (pe_lst (pa_cons (pe_fld (pv 0) rfl) pa_nil))) pa_nil)) pa_nil))))), ?_⟩
    (try simp only [ne_0_1, ne_0_1b, ne_0_2, ne_0_2b, ne_0_3, ne_0_3b, ne_0_4, ne_0_4b, ne_0_5, ne_0_5b, ne_1_0, ne_1_0b, ne_1_2, ne_1_2b, ne_1_3, ne_1_3b, ne_1_4, ne_1_4b, ne_1_5, ne_1_5b, ne_2_0, ne_2_0b, ne_2_1, ne_2_1b, ne_2_3, ne_2_3b, ne_2_4, ne_2_4b, ne_2_5, ne_2_5b, ne_3_0, ne_3_0b, ne_3_1, ne_3_1b, ne_3_2, ne_3_2b, ne_4_0, ne_4_0b, ne_4_1, ne_4_1b, ne_4_2, ne_4_2b, ne_5_0, ne_5_0b, ne_5_1, ne_5_1b, ne_5_2, ne_5_2b, cxOf, Cx.nox, Cx.wish, tSeq, tAsg, tC, gName, tIfS, tTest, tOp, tUn, rU, rI0, rI, tVar, tNext, tRevT, tDNewK, tBreak, tChain, iStr, tRet, tRetN, tDrop, tLst, tTup, tCons, tNil, tCB, tB, tOr, tAnd, tNot, tIf, tCall, tFor_eq, tLc_eq, iRng1, iRng2, iList, iTup, gTup, gTupH, gUnlH, gCons, gNil, gSub, rSetL, rIxL, rIxT, rIxLH, rIxTH, rSlTS, rCatS, rTupS, rIsiH, rLenS, V.ty.injEq, tyS_non, tyS_bl, tyS_int, tyS_str, tyS_ref, tyO_l, tyO_t, tyO_d, tyO_dt, kit_ll, kit_tt, kit_bb, kit_ii, kit_ib, kit_bi, kit_nt, kit_it, kit_st, kit_bt, kit_lt, kit_dt, kit_ni, kit_si, kit_ti, kit_li, kit_di, kit_nb, kit_ns, kit_is, kit_bs, kit_ss, kit_ts, kit_ls, kit_ds, kit_dd, lenS_ref, lenO_l, lenO_t,  rAppend, tM1, rIxS, tSl, tPart, tNoPart, tBM, tBM0, tDGetS, sDPutS, tTruS, truO_l, truO_t, truS_ref, truS_non, truS_bl, truS_int, tFld, sFld, sFldAug, rAdd, tMeth, tProp, tMake, tMakeK, List.take_succ_cons, List.take_zero, List.drop_succ_cons, List.drop_zero, List.take_nil, tIsN, tNotN, tAndV, tOrV, tNotV, putF, List.lookup, List.any_cons, List.any_nil, Sum.inr.injEq, HO.ins.injEq, HO.dK.injEq, eq_self, beq_self_eq_true, beq_iff_eq, decide_true, decide_false, Bool.or_true, Bool.true_or, Bool.or_false, Bool.false_or, tYes, rEq, rNe, _root_.L2.start, wipe, List.map_cons, List.map_nil, List.length_cons, List.length_nil, List.append_nil, Nat.reduceAdd, Nat.reduceSub, List.replicate_succ, List.replicate_zero, List.cons_append, List.nil_append, List.getElem?_cons_zero, List.getElem?_cons_succ, List.set_cons_zero, List.set_cons_succ, Option.some.injEq, V.int.injEq, V.ref.injEq, V.bl.injEq, V.str.injEq, List.cons.injEq, HO.lst.injEq, HO.tup.injEq, and_assoc, and_true, true_and, exists_eq_left, exists_eq_left', exists_and_left, exists_eq, reduceCtorEq, false_and, and_false, or_false, false_or, exists_false, decide_eq_true_eq, CPow, CDivW, Int.reducePow, Int.reduceLT, Int.reduceLE, Int.reduceNeg, Int.reduceToNat, Int.reduceAbs, Nat.reducePow, Nat.reduceLT, Nat.reduceLeDiff, sizeLine_eq, Int.reduceMul, Int.reduceAdd, Int.reduceSub, Bool.not_eq_true', decide_eq_false_iff_not, scal, Bool.not_true, Bool.not_false, Bool.true_eq_false, Bool.false_eq_true, ite_false, ite_true, if_true, if_false, ite_self, forall_const, atI0, atI1, atI2, atI3, ixN20, ixN21, upd_same, upd_upd, Int.zero_add, CMul, Int.reduceSub, Nat.le_refl, Nat.zero_le, or_true, true_or, exists_const, Int.sub_zero, hp, T.cl_Marks, T.n_Marks_own, T.n_Marks_kept, mkF])
    cases own with
    | none =>
      have := oD_none io
      subst this
      rw [if_pos rfl]
      intro q hq
      exact kk q [] _ upd_same im_nil (same_new hq)
    | some m =>
      obtain ⟨a, tv', kv, rfl, ha, _⟩ := mD_at io
      rw [if_neg (by intro z; cases z)]
      intro q hq
      have s1 := same_new hq (o := .lst [V.ref a])
      (try simp only [ne_0_1, ne_0_1b, ne_0_2, ne_0_2b, ne_0_3, ne_0_3b, ne_0_4, ne_0_4b, ne_0_5, ne_0_5b, ne_1_0, ne_1_0b, ne_1_2, ne_1_2b, ne_1_3, ne_1_3b, ne_1_4, ne_1_4b, ne_1_5, ne_1_5b, ne_2_0, ne_2_0b, ne_2_1, ne_2_1b, ne_2_3, ne_2_3b, ne_2_4, ne_2_4b, ne_2_5, ne_2_5b, ne_3_0, ne_3_0b, ne_3_1, ne_3_1b, ne_3_2, ne_3_2b, ne_4_0, ne_4_0b, ne_4_1, ne_4_1b, ne_4_2, ne_4_2b, ne_5_0, ne_5_0b, ne_5_1, ne_5_1b, ne_5_2, ne_5_2b, cxOf, Cx.nox, Cx.wish, tSeq, tAsg, tC, gName, tIfS, tTest, tOp, tUn, rU, rI0, rI, tVar, tNext, tRevT, tDNewK, tBreak, tChain, iStr, tRet, tRetN, tDrop, tLst, tTup, tCons, tNil, tCB, tB, tOr, tAnd, tNot, tIf, tCall, tFor_eq, tLc_eq, iRng1, iRng2, iList, iTup, gTup, gTupH, gUnlH, gCons, gNil, gSub, rSetL, rIxL, rIxT, rIxLH, rIxTH, rSlTS, rCatS, rTupS, rIsiH, rLenS, V.ty.injEq, tyS_non, tyS_bl, tyS_int, tyS_str, tyS_ref, tyO_l, tyO_t, tyO_d, tyO_dt, kit_ll, kit_tt, kit_bb, kit_ii, kit_ib, kit_bi, kit_nt, kit_it, kit_st, kit_bt, kit_lt, kit_dt, kit_ni, kit_si, kit_ti, kit_li, kit_di, kit_nb, kit_ns, kit_is, kit_bs, kit_ss, kit_ts, kit_ls, kit_ds, kit_dd, lenS_ref, lenO_l, lenO_t,  rAppend, tM1, rIxS, tSl, tPart, tNoPart, tBM, tBM0, tDGetS, sDPutS, tTruS, truO_l, truO_t, truS_ref, truS_non, truS_bl, truS_int, tFld, sFld, sFldAug, rAdd, tMeth, tProp, tMake, tMakeK, List.take_succ_cons, List.take_zero, List.drop_succ_cons, List.drop_zero, List.take_nil, tIsN, tNotN, tAndV, tOrV, tNotV, putF, List.lookup, List.any_cons, List.any_nil, Sum.inr.injEq, HO.ins.injEq, HO.dK.injEq, eq_self, beq_self_eq_true, beq_iff_eq, decide_true, decide_false, Bool.or_true, Bool.true_or, Bool.or_false, Bool.false_or, tYes, rEq, rNe, _root_.L2.start, wipe, List.map_cons, List.map_nil, List.length_cons, List.length_nil, List.append_nil, Nat.reduceAdd, Nat.reduceSub, List.replicate_succ, List.replicate_zero, List.cons_append, List.nil_append, List.getElem?_cons_zero, List.getElem?_cons_succ, List.set_cons_zero, List.set_cons_succ, Option.some.injEq, V.int.injEq, V.ref.injEq, V.bl.injEq, V.str.injEq, List.cons.injEq, HO.lst.injEq, HO.tup.injEq, and_assoc, and_true, true_and, exists_eq_left, exists_eq_left', exists_and_left, exists_eq, reduceCtorEq, false_and, and_false, or_false, false_or, exists_false, decide_eq_true_eq, CPow, CDivW, Int.reducePow, Int.reduceLT, Int.reduceLE, Int.reduceNeg, Int.reduceToNat, Int.reduceAbs, Nat.reducePow, Nat.reduceLT, Nat.reduceLeDiff, sizeLine_eq, Int.reduceMul, Int.reduceAdd, Int.reduceSub, Bool.not_eq_true', decide_eq_false_iff_not, scal, Bool.not_true, Bool.not_false, Bool.true_eq_false, Bool.false_eq_true, ite_false, ite_true, if_true, if_false, ite_self, forall_const, atI0, atI1, atI2, atI3, ixN20, ixN21, upd_same, upd_upd, Int.zero_add, CMul, Int.reduceSub, Nat.le_refl, Nat.zero_le, or_true, true_or, exists_const, Int.sub_zero, rCat, get_new hq hl])
      have hwl := iw.len
      rw [List.length_map] at hwl
      refine ⟨by omega, ?_⟩
      intro r hr
      have s2 := s1.trans (same_new hr (o := .lst (ws ++ [V.ref a])))
      (try simp only [ne_0_1, ne_0_1b, ne_0_2, ne_0_2b, ne_0_3, ne_0_3b, ne_0_4, ne_0_4b, ne_0_5, ne_0_5b, ne_1_0, ne_1_0b, ne_1_2, ne_1_2b, ne_1_3, ne_1_3b, ne_1_4, ne_1_4b, ne_1_5, ne_1_5b, ne_2_0, ne_2_0b, ne_2_1, ne_2_1b, ne_2_3, ne_2_3b, ne_2_4, ne_2_4b, ne_2_5, ne_2_5b, ne_3_0, ne_3_0b, ne_3_1, ne_3_1b, ne_3_2, ne_3_2b, ne_4_0, ne_4_0b, ne_4_1, ne_4_1b, ne_4_2, ne_4_2b, ne_5_0, ne_5_0b, ne_5_1, ne_5_1b, ne_5_2, ne_5_2b, cxOf, Cx.nox, Cx.wish, tSeq, tAsg, tC, gName, tIfS, tTest, tOp, tUn, rU, rI0, rI, tVar, tNext, tRevT, tDNewK, tBreak, tChain, iStr, tRet, tRetN, tDrop, tLst, tTup, tCons, tNil, tCB, tB, tOr, tAnd, tNot, tIf, tCall, tFor_eq, tLc_eq, iRng1, iRng2, iList, iTup, gTup, gTupH, gUnlH, gCons, gNil, gSub, rSetL, rIxL, rIxT, rIxLH, rIxTH, rSlTS, rCatS, rTupS, rIsiH, rLenS, V.ty.injEq, tyS_non, tyS_bl, tyS_int, tyS_str, tyS_ref, tyO_l, tyO_t, tyO_d, tyO_dt, kit_ll, kit_tt, kit_bb, kit_ii, kit_ib, kit_bi, kit_nt, kit_it, kit_st, kit_bt, kit_lt, kit_dt, kit_ni, kit_si, kit_ti, kit_li, kit_di, kit_nb, kit_ns, kit_is, kit_bs, kit_ss, kit_ts, kit_ls, kit_ds, kit_dd, lenS_ref, lenO_l, lenO_t,  rAppend, tM1, rIxS, tSl, tPart, tNoPart, tBM, tBM0, tDGetS, sDPutS, tTruS, truO_l, truO_t, truS_ref, truS_non, truS_bl, truS_int, tFld, sFld, sFldAug, rAdd, tMeth, tProp, tMake, tMakeK, List.take_succ_cons, List.take_zero, List.drop_succ_cons, List.drop_zero, List.take_nil, tIsN, tNotN, tAndV, tOrV, tNotV, putF, List.lookup, List.any_cons, List.any_nil, Sum.inr.injEq, HO.ins.injEq, HO.dK.injEq, eq_self, beq_self_eq_true, beq_iff_eq, decide_true, decide_false, Bool.or_true, Bool.true_or, Bool.or_false, Bool.false_or, tYes, rEq, rNe, _root_.L2.start, wipe, List.map_cons, List.map_nil, List.length_cons, List.length_nil, List.append_nil, Nat.reduceAdd, Nat.reduceSub, List.replicate_succ, List.replicate_zero, List.cons_append, List.nil_append, List.getElem?_cons_zero, List.getElem?_cons_succ, List.set_cons_zero, List.set_cons_succ, Option.some.injEq, V.int.injEq, V.ref.injEq, V.bl.injEq, V.str.injEq, List.cons.injEq, HO.lst.injEq, HO.tup.injEq, and_assoc, and_true, true_and, exists_eq_left, exists_eq_left', exists_and_left, exists_eq, reduceCtorEq, false_and, and_false, or_false, false_or, exists_false, decide_eq_true_eq, CPow, CDivW, Int.reducePow, Int.reduceLT, Int.reduceLE, Int.reduceNeg, Int.reduceToNat, Int.reduceAbs, Nat.reducePow, Nat.reduceLT, Nat.reduceLeDiff, sizeLine_eq, Int.reduceMul, Int.reduceAdd, Int.reduceSub, Bool.not_eq_true', decide_eq_false_iff_not, scal, Bool.not_true, Bool.not_false, Bool.true_eq_false, Bool.false_eq_true, ite_false, ite_true, if_true, if_false, ite_self, forall_const, atI0, atI1, atI2, atI3, ixN20, ixN21, upd_same, upd_upd, Int.zero_add, CMul, Int.reduceSub, Nat.le_refl, Nat.zero_le, or_true, true_or, exists_const, Int.sub_zero, rSortD])
      refine ⟨(kept ++ [m]).map mD, ?_, mDs_alike _, mDs_sortable _, mDs_depth _, fun z zs H3 hz s3 _ hz3 iz3 => ?_⟩
      · rw [List.map_append]
        exact (Same.ims s2 iw).app (im_cons (Same.im s2 io) im_nil)
      · (try simp only [ne_0_1, ne_0_1b, ne_0_2, ne_0_2b, ne_0_3, ne_0_3b, ne_0_4, ne_0_4b, ne_0_5, ne_0_5b, ne_1_0, ne_1_0b, ne_1_2, ne_1_2b, ne_1_3, ne_1_3b, ne_1_4, ne_1_4b, ne_1_5, ne_1_5b, ne_2_0, ne_2_0b, ne_2_1, ne_2_1b, ne_2_3, ne_2_3b, ne_2_4, ne_2_4b, ne_2_5, ne_2_5b, ne_3_0, ne_3_0b, ne_3_1, ne_3_1b, ne_3_2, ne_3_2b, ne_4_0, ne_4_0b, ne_4_1, ne_4_1b, ne_4_2, ne_4_2b, ne_5_0, ne_5_0b, ne_5_1, ne_5_1b, ne_5_2, ne_5_2b, cxOf, Cx.nox, Cx.wish, tSeq, tAsg, tC, gName, tIfS, tTest, tOp, tUn, rU, rI0, rI, tVar, tNext, tRevT, tDNewK, tBreak, tChain, iStr, tRet, tRetN, tDrop, tLst, tTup, tCons, tNil, tCB, tB, tOr, tAnd, tNot, tIf, tCall, tFor_eq, tLc_eq, iRng1, iRng2, iList, iTup, gTup, gTupH, gUnlH, gCons, gNil, gSub, rSetL, rIxL, rIxT, rIxLH, rIxTH, rSlTS, rCatS, rTupS, rIsiH, rLenS, V.ty.injEq, tyS_non, tyS_bl, tyS_int, tyS_str, tyS_ref, tyO_l, tyO_t, tyO_d, tyO_dt, kit_ll, kit_tt, kit_bb, kit_ii, kit_ib, kit_bi, kit_nt, kit_it, kit_st, kit_bt, kit_lt, kit_dt, kit_ni, kit_si, kit_ti, kit_li, kit_di, kit_nb, kit_ns, kit_is, kit_bs, kit_ss, kit_ts, kit_ls, kit_ds, kit_dd, lenS_ref, lenO_l, lenO_t,  rAppend, tM1, rIxS, tSl, tPart, tNoPart, tBM, tBM0, tDGetS, sDPutS, tTruS, truO_l, truO_t, truS_ref, truS_non, truS_bl, truS_int, tFld, sFld, sFldAug, rAdd, tMeth, tProp, tMake, tMakeK, List.take_succ_cons, List.take_zero, List.drop_succ_cons, List.drop_zero, List.take_nil, tIsN, tNotN, tAndV, tOrV, tNotV, putF, List.lookup, List.any_cons, List.any_nil, Sum.inr.injEq, HO.ins.injEq, HO.dK.injEq, eq_self, beq_self_eq_true, beq_iff_eq, decide_true, decide_false, Bool.or_true, Bool.true_or, Bool.or_false, Bool.false_or, tYes, rEq, rNe, _root_.L2.start, wipe, List.map_cons, List.map_nil, List.length_cons, List.length_nil, List.append_nil, Nat.reduceAdd, Nat.reduceSub, List.replicate_succ, List.replicate_zero, List.cons_append, List.nil_append, List.getElem?_cons_zero, List.getElem?_cons_succ, List.set_cons_zero, List.set_cons_succ, Option.some.injEq, V.int.injEq, V.ref.injEq, V.bl.injEq, V.str.injEq, List.cons.injEq, HO.lst.injEq, HO.tup.injEq, and_assoc, and_true, true_and, exists_eq_left, exists_eq_left', exists_and_left, exists_eq, reduceCtorEq, false_and, and_false, or_false, false_or, exists_false, decide_eq_true_eq, CPow, CDivW, Int.reducePow, Int.reduceLT, Int.reduceLE, Int.reduceNeg, Int.reduceToNat, Int.reduceAbs, Nat.reducePow, Nat.reduceLT, Nat.reduceLeDiff, sizeLine_eq, Int.reduceMul, Int.reduceAdd, Int.reduceSub, Bool.not_eq_true', decide_eq_false_iff_not, scal, Bool.not_true, Bool.not_false, Bool.true_eq_false, Bool.false_eq_true, ite_false, ite_true, if_true, if_false, ite_self, forall_const, atI0, atI1, atI2, atI3, ixN20, ixN21, upd_same, upd_upd, Int.zero_add, CMul, Int.reduceSub, Nat.le_refl, Nat.zero_le, or_true, true_or, exists_const, Int.sub_zero])
        exact ⟨zs, .inl hz3, fun y H4 s4 hy => kk y zs H4 hy (Same.ims s4 iz3) (s2.trans (s3.trans s4))⟩
def sp_law_stream : Sp := fun vs H Q _ => ∃ c k : Int, vs = [.int c, .int k] ∧ ∀ (p : Addr) (H' : Hp), H p = none → St2 H' p → Same H H' → (∀ b, b ≠ p → H' b = H b) → Q (.ref p) H'
theorem ok_law_stream (T : Txt K mg) : FnOk P w K mg base CX0 1 T.f_law_stream T.d_law_stream ["_law_cell", "_law_k"] (sp_law_stream) := by
  refine Fun.ok T.F_law_stream sc_law_stream (fun vs H Q E h => ?_) (fun cdv A outer s H vs Q E hr h => ?_)
  · obtain ⟨c, k, rfl, kk⟩ := h; rfl
  · obtain ⟨c, k, rfl, kk⟩ := h
    have hu := hu_of hr
    refine ⟨_, (pss_cons (ps_set (i := 2) sc_law_stream.nd rfl (Or.inl rfl) pe_int)
      (pss_cons (ps_if (pt_cmpR op_ge (pv 0) (pe_op op_pow pe_int pe_int) (nomark _)) (pss_one (ps_set (i := 2) sc_law_stream.nd rfl (Or.inl rfl) (pv 0))) pss_nil)
      (pss_one (ps_ret (pe_lst (pa_cons (pv 2) (pa_cons (pe_op op_mod (pe_callTy call_int1 (by rfl) T.z_int (by decide +kernel) (pa_cons (pe_op op_add (pe_op op_add (pe_op op_mul (pv 0) pe_int) (pe_op op_mul (pv 1) pe_int)) pe_int) pa_nil)) pe_int) pa_nil))))))), ?_⟩
    (try simp only [ne_0_1, ne_0_1b, ne_0_2, ne_0_2b, ne_0_3, ne_0_3b, ne_0_4, ne_0_4b, ne_0_5, ne_0_5b, ne_1_0, ne_1_0b, ne_1_2, ne_1_2b, ne_1_3, ne_1_3b, ne_1_4, ne_1_4b, ne_1_5, ne_1_5b, ne_2_0, ne_2_0b, ne_2_1, ne_2_1b, ne_2_3, ne_2_3b, ne_2_4, ne_2_4b, ne_2_5, ne_2_5b, ne_3_0, ne_3_0b, ne_3_1, ne_3_1b, ne_3_2, ne_3_2b, ne_4_0, ne_4_0b, ne_4_1, ne_4_1b, ne_4_2, ne_4_2b, ne_5_0, ne_5_0b, ne_5_1, ne_5_1b, ne_5_2, ne_5_2b, cxOf, Cx.nox, Cx.wish, tSeq, tAsg, tC, gName, tIfS, tTest, tOp, tUn, rU, rI0, rI, tVar, tNext, tRevT, tDNewK, tBreak, tChain, iStr, tRet, tRetN, tDrop, tLst, tTup, tCons, tNil, tCB, tB, tOr, tAnd, tNot, tIf, tCall, tFor_eq, tLc_eq, iRng1, iRng2, iList, iTup, gTup, gTupH, gUnlH, gCons, gNil, gSub, rSetL, rIxL, rIxT, rIxLH, rIxTH, rSlTS, rCatS, rTupS, rIsiH, rLenS, V.ty.injEq, tyS_non, tyS_bl, tyS_int, tyS_str, tyS_ref, tyO_l, tyO_t, tyO_d, tyO_dt, kit_ll, kit_tt, kit_bb, kit_ii, kit_ib, kit_bi, kit_nt, kit_it, kit_st, kit_bt, kit_lt, kit_dt, kit_ni, kit_si, kit_ti, kit_li, kit_di, kit_nb, kit_ns, kit_is, kit_bs, kit_ss, kit_ts, kit_ls, kit_ds, kit_dd, lenS_ref, lenO_l, lenO_t,  rAppend, tM1, rIxS, tSl, tPart, tNoPart, tBM, tBM0, tDGetS, sDPutS, tTruS, truO_l, truO_t, truS_ref, truS_non, truS_bl, truS_int, tFld, sFld, sFldAug, rAdd, tMeth, tProp, tMake, tMakeK, List.take_succ_cons, List.take_zero, List.drop_succ_cons, List.drop_zero, List.take_nil, tIsN, tNotN, tAndV, tOrV, tNotV, putF, List.lookup, List.any_cons, List.any_nil, Sum.inr.injEq, HO.ins.injEq, HO.dK.injEq, eq_self, beq_self_eq_true, beq_iff_eq, decide_true, decide_false, Bool.or_true, Bool.true_or, Bool.or_false, Bool.false_or, tYes, rEq, rNe, _root_.L2.start, wipe, List.map_cons, List.map_nil, List.length_cons, List.length_nil, List.append_nil, Nat.reduceAdd, Nat.reduceSub, List.replicate_succ, List.replicate_zero, List.cons_append, List.nil_append, List.getElem?_cons_zero, List.getElem?_cons_succ, List.set_cons_zero, List.set_cons_succ, Option.some.injEq, V.int.injEq, V.ref.injEq, V.bl.injEq, V.str.injEq, List.cons.injEq, HO.lst.injEq, HO.tup.injEq, and_assoc, and_true, true_and, exists_eq_left, exists_eq_left', exists_and_left, exists_eq, reduceCtorEq, false_and, and_false, or_false, false_or, exists_false, decide_eq_true_eq, CPow, CDivW, Int.reducePow, Int.reduceLT, Int.reduceLE, Int.reduceNeg, Int.reduceToNat, Int.reduceAbs, Nat.reducePow, Nat.reduceLT, Nat.reduceLeDiff, sizeLine_eq, Int.reduceMul, Int.reduceAdd, Int.reduceSub, Bool.not_eq_true', decide_eq_false_iff_not, scal, Bool.not_true, Bool.not_false, Bool.true_eq_false, Bool.false_eq_true, ite_false, ite_true, if_true, if_false, ite_self, forall_const, atI0, atI1, atI2, atI3, ixN20, ixN21, upd_same, upd_upd, Int.zero_add, CMul, Int.reduceSub, Nat.le_refl, Nat.zero_le, or_true, true_or, exists_const, Int.sub_zero])
    split
    all_goals exact fun p hp => kk p _ hp ⟨_, _, upd_same⟩ (same_new hp) (fun b hb => upd_ne hb)
def sp_law_next : Sp := fun vs H Q _ => ∃ (p : Addr) (n : Int), vs = [.ref p, .int n] ∧ St2 H p ∧ 0 < n ∧ n ≤ 1000000000000000000 ∧ ∀ (v : Int) (H' : Hp), 0 ≤ v → v < n → Gn p H H' → Q (.int v) H'
theorem ok_law_next (T : Txt K mg) : FnOk P w K mg base CX0 1 T.f_law_next T.d_law_next ["_law_stream_here", "_law_size"] (sp_law_next) := by
  refine Fun.ok T.F_law_next sc_law_next (fun vs H Q E h => ?_) (fun cdv A outer s H vs Q E hr h => ?_)
  · obtain ⟨p, n, rfl, ⟨d, r, hp⟩, n0, n1, kk⟩ := h; rfl
  · obtain ⟨p, n, rfl, ⟨d, r, hp⟩, n0, n1, kk⟩ := h
    have hu := hu_of hr
    refine ⟨_, (pss_cons (ps_if (pt_cmpR op_gt (pe_ix ix_listH (pv 0) pe_int (fun _ _ => rfl)) pe_int (nomark _)) (pss_cons (ps_set (i := 2) sc_law_next.nd rfl (Or.inl rfl) (pe_op op_mod (pe_callTy call_int1 (by rfl) T.z_int (by decide +kernel) (pa_cons (pe_ix ix_listH (pv 0) pe_int (fun _ _ => rfl)) pa_nil)) (pv 1)))
      (pss_cons (ps_asg (pe_op op_fdivW (pe_ix ix_listH (pv 0) pe_int (fun _ _ => rfl)) (pv 1)) (pg_sub (pv 0) pe_int set_list))
      (pss_one (ps_ret (pv 2))))) pss_nil)
      (pss_cons (ps_asg (pe_op op_mod (pe_callTy call_int1 (by rfl) T.z_int (by decide +kernel) (pa_cons (pe_op op_add (pe_op op_mul (pe_ix ix_listH (pv 0) pe_int (fun _ _ => rfl)) pe_int) pe_int) pa_nil)) pe_int) (pg_sub (pv 0) pe_int set_list))
      (pss_one (ps_ret (pe_op op_mod (pe_callTy call_int1 (by rfl) T.z_int (by decide +kernel) (pa_cons (pe_op op_fdivW (pe_op op_mod (pe_callTy call_int1 (by rfl) T.z_int (by decide +kernel) (pa_cons (pe_op op_add (pe_op op_mul (pe_ix ix_listH (pv 0) pe_int (fun _ _ => rfl)) pe_int) pe_int) pa_nil)) pe_int) pe_int) pa_nil)) (pv 1)))))), ?_⟩
    have hl : n.natAbs.log2 < 9000 := Nat.lt_of_lt_of_le (PySem.Flt.log2_lt_of (k := 64) (by decide) (by omega)) (by decide)
    (try simp only [ne_0_1, ne_0_1b, ne_0_2, ne_0_2b, ne_0_3, ne_0_3b, ne_0_4, ne_0_4b, ne_0_5, ne_0_5b, ne_1_0, ne_1_0b, ne_1_2, ne_1_2b, ne_1_3, ne_1_3b, ne_1_4, ne_1_4b, ne_1_5, ne_1_5b, ne_2_0, ne_2_0b, ne_2_1, ne_2_1b, ne_2_3, ne_2_3b, ne_2_4, ne_2_4b, ne_2_5, ne_2_5b, ne_3_0, ne_3_0b, ne_3_1, ne_3_1b, ne_3_2, ne_3_2b, ne_4_0, ne_4_0b, ne_4_1, ne_4_1b, ne_4_2, ne_4_2b, ne_5_0, ne_5_0b, ne_5_1, ne_5_1b, ne_5_2, ne_5_2b, cxOf, Cx.nox, Cx.wish, tSeq, tAsg, tC, gName, tIfS, tTest, tOp, tUn, rU, rI0, rI, tVar, tNext, tRevT, tDNewK, tBreak, tChain, iStr, tRet, tRetN, tDrop, tLst, tTup, tCons, tNil, tCB, tB, tOr, tAnd, tNot, tIf, tCall, tFor_eq, tLc_eq, iRng1, iRng2, iList, iTup, gTup, gTupH, gUnlH, gCons, gNil, gSub, rSetL, rIxL, rIxT, rIxLH, rIxTH, rSlTS, rCatS, rTupS, rIsiH, rLenS, V.ty.injEq, tyS_non, tyS_bl, tyS_int, tyS_str, tyS_ref, tyO_l, tyO_t, tyO_d, tyO_dt, kit_ll, kit_tt, kit_bb, kit_ii, kit_ib, kit_bi, kit_nt, kit_it, kit_st, kit_bt, kit_lt, kit_dt, kit_ni, kit_si, kit_ti, kit_li, kit_di, kit_nb, kit_ns, kit_is, kit_bs, kit_ss, kit_ts, kit_ls, kit_ds, kit_dd, lenS_ref, lenO_l, lenO_t,  rAppend, tM1, rIxS, tSl, tPart, tNoPart, tBM, tBM0, tDGetS, sDPutS, tTruS, truO_l, truO_t, truS_ref, truS_non, truS_bl, truS_int, tFld, sFld, sFldAug, rAdd, tMeth, tProp, tMake, tMakeK, List.take_succ_cons, List.take_zero, List.drop_succ_cons, List.drop_zero, List.take_nil, tIsN, tNotN, tAndV, tOrV, tNotV, putF, List.lookup, List.any_cons, List.any_nil, Sum.inr.injEq, HO.ins.injEq, HO.dK.injEq, eq_self, beq_self_eq_true, beq_iff_eq, decide_true, decide_false, Bool.or_true, Bool.true_or, Bool.or_false, Bool.false_or, tYes, rEq, rNe, _root_.L2.start, wipe, List.map_cons, List.map_nil, List.length_cons, List.length_nil, List.append_nil, Nat.reduceAdd, Nat.reduceSub, List.replicate_succ, List.replicate_zero, List.cons_append, List.nil_append, List.getElem?_cons_zero, List.getElem?_cons_succ, List.set_cons_zero, List.set_cons_succ, Option.some.injEq, V.int.injEq, V.ref.injEq, V.bl.injEq, V.str.injEq, List.cons.injEq, HO.lst.injEq, HO.tup.injEq, and_assoc, and_true, true_and, exists_eq_left, exists_eq_left', exists_and_left, exists_eq, reduceCtorEq, false_and, and_false, or_false, false_or, exists_false, decide_eq_true_eq, CPow, CDivW, Int.reducePow, Int.reduceLT, Int.reduceLE, Int.reduceNeg, Int.reduceToNat, Int.reduceAbs, Nat.reducePow, Nat.reduceLT, Nat.reduceLeDiff, sizeLine_eq, Int.reduceMul, Int.reduceAdd, Int.reduceSub, Bool.not_eq_true', decide_eq_false_iff_not, scal, Bool.not_true, Bool.not_false, Bool.true_eq_false, Bool.false_eq_true, ite_false, ite_true, if_true, if_false, ite_self, forall_const, atI0, atI1, atI2, atI3, ixN20, ixN21, upd_same, upd_upd, Int.zero_add, CMul, Int.reduceSub, Nat.le_refl, Nat.zero_le, or_true, true_or, exists_const, Int.sub_zero, hp])
    split
    · exact ⟨n0, n0, hl, kk _ _ (Int.emod_nonneg _ (by omega)) (Int.emod_lt_of_pos _ n0) (Gn.upd ⟨d, r, hp⟩)⟩
    · exact ⟨by decide, n0, kk _ _ (Int.emod_nonneg _ (by omega)) (Int.emod_lt_of_pos _ n0) (Gn.upd ⟨d, r, hp⟩)⟩
def sp_law_transaction : Sp := fun vs H Q _ => ∃ (p : Addr), vs = [.ref p] ∧ St2 H p ∧ ∀ (v : V) (t : Int × Int) (H' : Hp), Im H' (tD t) v → Gn p H H' → Q v H'
theorem ok_law_transaction (T : Txt K mg) : FnOk P w K mg base CX0 2 T.f_law_transaction T.d_law_transaction ["_law_stream_here"] (sp_law_transaction) := by
  refine Fun.ok T.F_law_transaction sc_law_transaction (fun vs H Q E h => ?_) (fun cdv A outer s H vs Q E hr h => ?_)
  · obtain ⟨p, rfl, hp, kk⟩ := h; rfl
  · obtain ⟨p, rfl, hp, kk⟩ := h
    have hu := hu_of hr
    refine ⟨_, (pss_cons (ps_if (pt_cmpR op_eq (pe_call (ok_law_next T) (hr.mono (by decide)) rfl T.g_law_next T.F_law_next.kp T.b_law_next .nil pass0 (pa_cons (pv 0) (pa_cons pe_int pa_nil))) pe_int (nomark _)) (pss_one (ps_ret (pe_tup (pa_cons (pe_op op_add pe_int (pe_call (ok_law_next T) (hr.mono (by decide)) rfl T.g_law_next T.F_law_next.kp T.b_law_next .nil pass0 (pa_cons (pv 0) (pa_cons (pe_op op_pow pe_int pe_int) pa_nil)))) (pa_cons (pe_call (ok_law_next T) (hr.mono (by decide)) rfl T.g_law_next T.F_law_next.kp T.b_law_next .nil pass0 (pa_cons (pv 0) (pa_cons (pe_op op_pow pe_int pe_int) pa_nil))) pa_nil))))) pss_nil)
      (pss_one (ps_ret (pe_tup (pa_cons (pe_op op_add pe_int (pe_call (ok_law_next T) (hr.mono (by decide)) rfl T.g_law_next T.F_law_next.kp T.b_law_next .nil pass0 (pa_cons (pv 0) (pa_cons pe_int pa_nil)))) (pa_cons (pe_call (ok_law_next T) (hr.mono (by decide)) rfl T.g_law_next T.F_law_next.kp T.b_law_next .nil pass0 (pa_cons (pv 0) (pa_cons pe_int pa_nil))) pa_nil)))))), ?_⟩
    (try simp only [ne_0_1, ne_0_1b, ne_0_2, ne_0_2b, ne_0_3, ne_0_3b, ne_0_4, ne_0_4b, ne_0_5, ne_0_5b, ne_1_0, ne_1_0b, ne_1_2, ne_1_2b, ne_1_3, ne_1_3b, ne_1_4, ne_1_4b, ne_1_5, ne_1_5b, ne_2_0, ne_2_0b, ne_2_1, ne_2_1b, ne_2_3, ne_2_3b, ne_2_4, ne_2_4b, ne_2_5, ne_2_5b, ne_3_0, ne_3_0b, ne_3_1, ne_3_1b, ne_3_2, ne_3_2b, ne_4_0, ne_4_0b, ne_4_1, ne_4_1b, ne_4_2, ne_4_2b, ne_5_0, ne_5_0b, ne_5_1, ne_5_1b, ne_5_2, ne_5_2b, cxOf, Cx.nox, Cx.wish, tSeq, tAsg, tC, gName, tIfS, tTest, tOp, tUn, rU, rI0, rI, tVar, tNext, tRevT, tDNewK, tBreak, tChain, iStr, tRet, tRetN, tDrop, tLst, tTup, tCons, tNil, tCB, tB, tOr, tAnd, tNot, tIf, tCall, tFor_eq, tLc_eq, iRng1, iRng2, iList, iTup, gTup, gTupH, gUnlH, gCons, gNil, gSub, rSetL, rIxL, rIxT, rIxLH, rIxTH, rSlTS, rCatS, rTupS, rIsiH, rLenS, V.ty.injEq, tyS_non, tyS_bl, tyS_int, tyS_str, tyS_ref, tyO_l, tyO_t, tyO_d, tyO_dt, kit_ll, kit_tt, kit_bb, kit_ii, kit_ib, kit_bi, kit_nt, kit_it, kit_st, kit_bt, kit_lt, kit_dt, kit_ni, kit_si, kit_ti, kit_li, kit_di, kit_nb, kit_ns, kit_is, kit_bs, kit_ss, kit_ts, kit_ls, kit_ds, kit_dd, lenS_ref, lenO_l, lenO_t,  rAppend, tM1, rIxS, tSl, tPart, tNoPart, tBM, tBM0, tDGetS, sDPutS, tTruS, truO_l, truO_t, truS_ref, truS_non, truS_bl, truS_int, tFld, sFld, sFldAug, rAdd, tMeth, tProp, tMake, tMakeK, List.take_succ_cons, List.take_zero, List.drop_succ_cons, List.drop_zero, List.take_nil, tIsN, tNotN, tAndV, tOrV, tNotV, putF, List.lookup, List.any_cons, List.any_nil, Sum.inr.injEq, HO.ins.injEq, HO.dK.injEq, eq_self, beq_self_eq_true, beq_iff_eq, decide_true, decide_false, Bool.or_true, Bool.true_or, Bool.or_false, Bool.false_or, tYes, rEq, rNe, _root_.L2.start, wipe, List.map_cons, List.map_nil, List.length_cons, List.length_nil, List.append_nil, Nat.reduceAdd, Nat.reduceSub, List.replicate_succ, List.replicate_zero, List.cons_append, List.nil_append, List.getElem?_cons_zero, List.getElem?_cons_succ, List.set_cons_zero, List.set_cons_succ, Option.some.injEq, V.int.injEq, V.ref.injEq, V.bl.injEq, V.str.injEq, List.cons.injEq, HO.lst.injEq, HO.tup.injEq, and_assoc, and_true, true_and, exists_eq_left, exists_eq_left', exists_and_left, exists_eq, reduceCtorEq, false_and, and_false, or_false, false_or, exists_false, decide_eq_true_eq, CPow, CDivW, Int.reducePow, Int.reduceLT, Int.reduceLE, Int.reduceNeg, Int.reduceToNat, Int.reduceAbs, Nat.reducePow, Nat.reduceLT, Nat.reduceLeDiff, sizeLine_eq, Int.reduceMul, Int.reduceAdd, Int.reduceSub, Bool.not_eq_true', decide_eq_false_iff_not, scal, Bool.not_true, Bool.not_false, Bool.true_eq_false, Bool.false_eq_true, ite_false, ite_true, if_true, if_false, ite_self, forall_const, atI0, atI1, atI2, atI3, ixN20, ixN21, upd_same, upd_upd, Int.zero_add, CMul, Int.reduceSub, Nat.le_refl, Nat.zero_le, or_true, true_or, exists_const, Int.sub_zero, sp_law_next])
    refine ⟨hp, fun v H1 v0 v1 g1 => ?_⟩
    split
    · exact ⟨g1.st, fun i H2 i0 i1 g2 => ⟨g2.st, fun j H3 j0 j1 g3 q hq => kk _ (1 + i, j) _ (im_tup upd_same (im_cons im_int (im_cons im_int im_nil))) (((g1.trans g2).trans g3).new hq)⟩⟩
    · exact ⟨g1.st, fun i H2 i0 i1 g2 => ⟨g2.st, fun j H3 j0 j1 g3 q hq => kk _ (1 + i, j) _ (im_tup upd_same (im_cons im_int (im_cons im_int im_nil))) (((g1.trans g2).trans g3).new hq)⟩⟩
def sp_law_next_takes (C : Addr) : Sp := fun vs H Q _ => ∃ (R N : Addr) (n k : Nat) (ring : Bool) (ps ls : Nat → Addr) (nm : Nat → Int × Int) (M : Nat → Mrk) (kp : Nat → List Mrk) (xs : List V), vs = [.ref R, .ref N, .int k, .bl ring] ∧ k < n ∧ n ≤ 6 ∧ RowsH C H n ps ls nm M kp ∧
  H R = some (.lst (rowsL n ps)) ∧ H N = some (.lst xs) ∧ ImAll H (namesD n nm) xs ∧ (∀ j, j < n → (M j).t = nm j) ∧ (∀ j, j < n → ∀ m ∈ kp j, gtM m (nm j) = true) ∧ (∀ j, j < n → (kp j).length ≤ n) ∧
  (ring = false → k + 1 = n → Q (.bl false) H) ∧ (¬ (ring = false ∧ k + 1 = n) → ∀ H', MarksAt C H' (ps k) (ls k) (nm k) (some (M k)) (takeS (nm k) (M k) (kp k) (tells (M (nxt n k)) (kp (nxt n k)))) → Bt (ps k) (ls k) H H' →
    Q (.bl (decide (M k ∈ tells (M (nxt n k)) (kp (nxt n k))))) H')
theorem ok_law_next_takes (T : Txt K mg) : FnOk P w K mg base CX0 2 T.f_law_next_takes T.d_law_next_takes ["_law_rows", "_law_names_here", "_law_k", "_law_ring"] (sp_law_next_takes T.C_Marks) := by
  refine Fun.ok T.F_law_next_takes sc_law_next_takes (fun vs H Q E h => ?_) (fun cdv A outer s H vs Q E hr h => ?_)
  · obtain ⟨R, N, n, k, ring, ps, ls, nm, M, kp, xs, rfl, hk, hn, hrw, hR, hN, ix, hM, hg, hl, kk1, kk2⟩ := h; rfl
  · obtain ⟨R, N, n, k, ring, ps, ls, nm, M, kp, xs, rfl, hk, hn, hrw, hR, hN, ix, hM, hg, hl, kk1, kk2⟩ := h
    have hu := hu_of hr
    refine ⟨_, (pss_cons (ps_set (i := 4) sc_law_next_takes.nd rfl (Or.inl rfl) (pe_op op_add (pv 2) pe_int))
      (C8.pss_cut (ps_if (pt_cmpR op_eq (pv 4) (pe_callB call_lenS (by rfl) T.z_len (by decide +kernel) (pa_cons (pv 1) pa_nil)) (nomark _)) (pss_cons (ps_if (pt_not (pt_val (pv 3))) (pss_one (ps_ret pe_bl)) pss_nil)
      (pss_one (ps_set (i := 4) sc_law_next_takes.nd rfl (Or.inl rfl) pe_int))) pss_nil)
      (pss_cons (ps_set (i := 5) sc_law_next_takes.nd rfl (Or.inl rfl) (pe_meth0 (pe_ix ix_listH (pv 0) (pv 4) (fun _ _ => rfl)) T.cl_Marks T.m_Marks_told (ok_Marks_told T) (hr.mono (by decide)) T.b_Marks_told .nil pass0))
      (pss_cons (ps_for PassesOwn.never rfl (pi_tup (pv 5)) (pg_name (i := 6) sc_law_next_takes.nd rfl (Or.inl rfl))
      (pss_one (ps_if (pt_cmpR (op_ltA (K := K) rfl (hu65 hr)) (pe_ix ix_tupH (pv 6) pe_int (fun _ _ => rfl)) (pe_ix ix_listH (pv 1) (pv 4) (fun _ _ => rfl)) (nomark _)) (pss_one (ps_ret pe_non)) pss_nil)))
      (pss_one (ps_ret (pe_meth (pe_ix ix_listH (pv 0) (pv 2) (fun _ _ => rfl)) T.cl_Marks T.m_Marks_take (ok_Marks_take T) (hr.mono (by decide)) T.b_Marks_take .nil pass0 (pa_cons (pv 5) pa_nil)))))))), ?_⟩
    have hxl := ix.len
    simp only [List.length_map, List.length_range] at hxl
    have hx := nxt_lt hk
    (try simp only [ne_0_1, ne_0_1b, ne_0_2, ne_0_2b, ne_0_3, ne_0_3b, ne_0_4, ne_0_4b, ne_0_5, ne_0_5b, ne_1_0, ne_1_0b, ne_1_2, ne_1_2b, ne_1_3, ne_1_3b, ne_1_4, ne_1_4b, ne_1_5, ne_1_5b, ne_2_0, ne_2_0b, ne_2_1, ne_2_1b, ne_2_3, ne_2_3b, ne_2_4, ne_2_4b, ne_2_5, ne_2_5b, ne_3_0, ne_3_0b, ne_3_1, ne_3_1b, ne_3_2, ne_3_2b, ne_4_0, ne_4_0b, ne_4_1, ne_4_1b, ne_4_2, ne_4_2b, ne_5_0, ne_5_0b, ne_5_1, ne_5_1b, ne_5_2, ne_5_2b, cxOf, Cx.nox, Cx.wish, tSeq, tAsg, tC, gName, tIfS, tTest, tOp, tUn, rU, rI0, rI, tVar, tNext, tRevT, tDNewK, tBreak, tChain, iStr, tRet, tRetN, tDrop, tLst, tTup, tCons, tNil, tCB, tB, tOr, tAnd, tNot, tIf, tCall, tFor_eq, tLc_eq, iRng1, iRng2, iList, iTup, gTup, gTupH, gUnlH, gCons, gNil, gSub, rSetL, rIxL, rIxT, rIxLH, rIxTH, rSlTS, rCatS, rTupS, rIsiH, rLenS, V.ty.injEq, tyS_non, tyS_bl, tyS_int, tyS_str, tyS_ref, tyO_l, tyO_t, tyO_d, tyO_dt, kit_ll, kit_tt, kit_bb, kit_ii, kit_ib, kit_bi, kit_nt, kit_it, kit_st, kit_bt, kit_lt, kit_dt, kit_ni, kit_si, kit_ti, kit_li, kit_di, kit_nb, kit_ns, kit_is, kit_bs, kit_ss, kit_ts, kit_ls, kit_ds, kit_dd, lenS_ref, lenO_l, lenO_t,  rAppend, tM1, rIxS, tSl, tPart, tNoPart, tBM, tBM0, tDGetS, sDPutS, tTruS, truO_l, truO_t, truS_ref, truS_non, truS_bl, truS_int, tFld, sFld, sFldAug, rAdd, tMeth, tProp, tMake, tMakeK, List.take_succ_cons, List.take_zero, List.drop_succ_cons, List.drop_zero, List.take_nil, tIsN, tNotN, tAndV, tOrV, tNotV, putF, List.lookup, List.any_cons, List.any_nil, Sum.inr.injEq, HO.ins.injEq, HO.dK.injEq, eq_self, beq_self_eq_true, beq_iff_eq, decide_true, decide_false, Bool.or_true, Bool.true_or, Bool.or_false, Bool.false_or, tYes, rEq, rNe, _root_.L2.start, wipe, List.map_cons, List.map_nil, List.length_cons, List.length_nil, List.append_nil, Nat.reduceAdd, Nat.reduceSub, List.replicate_succ, List.replicate_zero, List.cons_append, List.nil_append, List.getElem?_cons_zero, List.getElem?_cons_succ, List.set_cons_zero, List.set_cons_succ, Option.some.injEq, V.int.injEq, V.ref.injEq, V.bl.injEq, V.str.injEq, List.cons.injEq, HO.lst.injEq, HO.tup.injEq, and_assoc, and_true, true_and, exists_eq_left, exists_eq_left', exists_and_left, exists_eq, reduceCtorEq, false_and, and_false, or_false, false_or, exists_false, decide_eq_true_eq, CPow, CDivW, Int.reducePow, Int.reduceLT, Int.reduceLE, Int.reduceNeg, Int.reduceToNat, Int.reduceAbs, Nat.reducePow, Nat.reduceLT, Nat.reduceLeDiff, sizeLine_eq, Int.reduceMul, Int.reduceAdd, Int.reduceSub, Bool.not_eq_true', decide_eq_false_iff_not, scal, Bool.not_true, Bool.not_false, Bool.true_eq_false, Bool.false_eq_true, ite_false, ite_true, if_true, if_false, ite_self, forall_const, atI0, atI1, atI2, atI3, ixN20, ixN21, upd_same, upd_upd, Int.zero_add, CMul, Int.reduceSub, Nat.le_refl, Nat.zero_le, or_true, true_or, exists_const, Int.sub_zero, hN])
    refine cutI (fun σ H' => σ = [some (.ref R), some (.ref N), some (.int k), some (.bl ring), some (.int (nxt n k : Nat)), none, none] ∧ H' = H ∧ ¬ (ring = false ∧ k + 1 = n)) ?_ ?_
    · (try simp only [ne_0_1, ne_0_1b, ne_0_2, ne_0_2b, ne_0_3, ne_0_3b, ne_0_4, ne_0_4b, ne_0_5, ne_0_5b, ne_1_0, ne_1_0b, ne_1_2, ne_1_2b, ne_1_3, ne_1_3b, ne_1_4, ne_1_4b, ne_1_5, ne_1_5b, ne_2_0, ne_2_0b, ne_2_1, ne_2_1b, ne_2_3, ne_2_3b, ne_2_4, ne_2_4b, ne_2_5, ne_2_5b, ne_3_0, ne_3_0b, ne_3_1, ne_3_1b, ne_3_2, ne_3_2b, ne_4_0, ne_4_0b, ne_4_1, ne_4_1b, ne_4_2, ne_4_2b, ne_5_0, ne_5_0b, ne_5_1, ne_5_1b, ne_5_2, ne_5_2b, cxOf, Cx.nox, Cx.wish, tSeq, tAsg, tC, gName, tIfS, tTest, tOp, tUn, rU, rI0, rI, tVar, tNext, tRevT, tDNewK, tBreak, tChain, iStr, tRet, tRetN, tDrop, tLst, tTup, tCons, tNil, tCB, tB, tOr, tAnd, tNot, tIf, tCall, tFor_eq, tLc_eq, iRng1, iRng2, iList, iTup, gTup, gTupH, gUnlH, gCons, gNil, gSub, rSetL, rIxL, rIxT, rIxLH, rIxTH, rSlTS, rCatS, rTupS, rIsiH, rLenS, V.ty.injEq, tyS_non, tyS_bl, tyS_int, tyS_str, tyS_ref, tyO_l, tyO_t, tyO_d, tyO_dt, kit_ll, kit_tt, kit_bb, kit_ii, kit_ib, kit_bi, kit_nt, kit_it, kit_st, kit_bt, kit_lt, kit_dt, kit_ni, kit_si, kit_ti, kit_li, kit_di, kit_nb, kit_ns, kit_is, kit_bs, kit_ss, kit_ts, kit_ls, kit_ds, kit_dd, lenS_ref, lenO_l, lenO_t,  rAppend, tM1, rIxS, tSl, tPart, tNoPart, tBM, tBM0, tDGetS, sDPutS, tTruS, truO_l, truO_t, truS_ref, truS_non, truS_bl, truS_int, tFld, sFld, sFldAug, rAdd, tMeth, tProp, tMake, tMakeK, List.take_succ_cons, List.take_zero, List.drop_succ_cons, List.drop_zero, List.take_nil, tIsN, tNotN, tAndV, tOrV, tNotV, putF, List.lookup, List.any_cons, List.any_nil, Sum.inr.injEq, HO.ins.injEq, HO.dK.injEq, eq_self, beq_self_eq_true, beq_iff_eq, decide_true, decide_false, Bool.or_true, Bool.true_or, Bool.or_false, Bool.false_or, tYes, rEq, rNe, _root_.L2.start, wipe, List.map_cons, List.map_nil, List.length_cons, List.length_nil, List.append_nil, Nat.reduceAdd, Nat.reduceSub, List.replicate_succ, List.replicate_zero, List.cons_append, List.nil_append, List.getElem?_cons_zero, List.getElem?_cons_succ, List.set_cons_zero, List.set_cons_succ, Option.some.injEq, V.int.injEq, V.ref.injEq, V.bl.injEq, V.str.injEq, List.cons.injEq, HO.lst.injEq, HO.tup.injEq, and_assoc, and_true, true_and, exists_eq_left, exists_eq_left', exists_and_left, exists_eq, reduceCtorEq, false_and, and_false, or_false, false_or, exists_false, decide_eq_true_eq, CPow, CDivW, Int.reducePow, Int.reduceLT, Int.reduceLE, Int.reduceNeg, Int.reduceToNat, Int.reduceAbs, Nat.reducePow, Nat.reduceLT, Nat.reduceLeDiff, sizeLine_eq, Int.reduceMul, Int.reduceAdd, Int.reduceSub, Bool.not_eq_true', decide_eq_false_iff_not, scal, Bool.not_true, Bool.not_false, Bool.true_eq_false, Bool.false_eq_true, ite_false, ite_true, if_true, if_false, ite_self, forall_const, atI0, atI1, atI2, atI3, ixN20, ixN21, upd_same, upd_upd, Int.zero_add, CMul, Int.reduceSub, Nat.le_refl, Nat.zero_le, or_true, true_or, exists_const, Int.sub_zero, hN])
      by_cases hkn : k + 1 = n
      · rw [if_pos (by omega)]
        cases ring with
        | false => rw [if_pos rfl]; exact kk1 rfl hkn
        | true => rw [if_neg (by simp)]; exact ⟨by unfold nxt; rw [if_pos hkn]; rfl, fun z => by cases z.1⟩
      · rw [if_neg (by omega)]
        exact ⟨by unfold nxt; rw [if_neg hkn]; omega, fun z => hkn z.2⟩
    · rintro σ H' ⟨rfl, rfl, hno⟩
      have kk := kk2 hno
      (try simp only [ne_0_1, ne_0_1b, ne_0_2, ne_0_2b, ne_0_3, ne_0_3b, ne_0_4, ne_0_4b, ne_0_5, ne_0_5b, ne_1_0, ne_1_0b, ne_1_2, ne_1_2b, ne_1_3, ne_1_3b, ne_1_4, ne_1_4b, ne_1_5, ne_1_5b, ne_2_0, ne_2_0b, ne_2_1, ne_2_1b, ne_2_3, ne_2_3b, ne_2_4, ne_2_4b, ne_2_5, ne_2_5b, ne_3_0, ne_3_0b, ne_3_1, ne_3_1b, ne_3_2, ne_3_2b, ne_4_0, ne_4_0b, ne_4_1, ne_4_1b, ne_4_2, ne_4_2b, ne_5_0, ne_5_0b, ne_5_1, ne_5_1b, ne_5_2, ne_5_2b, cxOf, Cx.nox, Cx.wish, tSeq, tAsg, tC, gName, tIfS, tTest, tOp, tUn, rU, rI0, rI, tVar, tNext, tRevT, tDNewK, tBreak, tChain, iStr, tRet, tRetN, tDrop, tLst, tTup, tCons, tNil, tCB, tB, tOr, tAnd, tNot, tIf, tCall, tFor_eq, tLc_eq, iRng1, iRng2, iList, iTup, gTup, gTupH, gUnlH, gCons, gNil, gSub, rSetL, rIxL, rIxT, rIxLH, rIxTH, rSlTS, rCatS, rTupS, rIsiH, rLenS, V.ty.injEq, tyS_non, tyS_bl, tyS_int, tyS_str, tyS_ref, tyO_l, tyO_t, tyO_d, tyO_dt, kit_ll, kit_tt, kit_bb, kit_ii, kit_ib, kit_bi, kit_nt, kit_it, kit_st, kit_bt, kit_lt, kit_dt, kit_ni, kit_si, kit_ti, kit_li, kit_di, kit_nb, kit_ns, kit_is, kit_bs, kit_ss, kit_ts, kit_ls, kit_ds, kit_dd, lenS_ref, lenO_l, lenO_t,  rAppend, tM1, rIxS, tSl, tPart, tNoPart, tBM, tBM0, tDGetS, sDPutS, tTruS, truO_l, truO_t, truS_ref, truS_non, truS_bl, truS_int, tFld, sFld, sFldAug, rAdd, tMeth, tProp, tMake, tMakeK, List.take_succ_cons, List.take_zero, List.drop_succ_cons, List.drop_zero, List.take_nil, tIsN, tNotN, tAndV, tOrV, tNotV, putF, List.lookup, List.any_cons, List.any_nil, Sum.inr.injEq, HO.ins.injEq, HO.dK.injEq, eq_self, beq_self_eq_true, beq_iff_eq, decide_true, decide_false, Bool.or_true, Bool.true_or, Bool.or_false, Bool.false_or, tYes, rEq, rNe, _root_.L2.start, wipe, List.map_cons, List.map_nil, List.length_cons, List.length_nil, List.append_nil, Nat.reduceAdd, Nat.reduceSub, List.replicate_succ, List.replicate_zero, List.cons_append, List.nil_append, List.getElem?_cons_zero, List.getElem?_cons_succ, List.set_cons_zero, List.set_cons_succ, Option.some.injEq, V.int.injEq, V.ref.injEq, V.bl.injEq, V.str.injEq, List.cons.injEq, HO.lst.injEq, HO.tup.injEq, and_assoc, and_true, true_and, exists_eq_left, exists_eq_left', exists_and_left, exists_eq, reduceCtorEq, false_and, and_false, or_false, false_or, exists_false, decide_eq_true_eq, CPow, CDivW, Int.reducePow, Int.reduceLT, Int.reduceLE, Int.reduceNeg, Int.reduceToNat, Int.reduceAbs, Nat.reducePow, Nat.reduceLT, Nat.reduceLeDiff, sizeLine_eq, Int.reduceMul, Int.reduceAdd, Int.reduceSub, Bool.not_eq_true', decide_eq_false_iff_not, scal, Bool.not_true, Bool.not_false, Bool.true_eq_false, Bool.false_eq_true, ite_false, ite_true, if_true, if_false, ite_self, forall_const, atI0, atI1, atI2, atI3, ixN20, ixN21, upd_same, upd_upd, Int.zero_add, CMul, Int.reduceSub, Nat.le_refl, Nat.zero_le, or_true, true_or, exists_const, Int.sub_zero, hR])
      obtain ⟨dx, tv, ov, ws, hp, _⟩ := hrw.at_ _ hx
      refine ⟨_, rowsL_at hx, _, rfl, _, _, hp, rfl, ?_⟩
      have hlx := hl _ hx
      (try simp only [ne_0_1, ne_0_1b, ne_0_2, ne_0_2b, ne_0_3, ne_0_3b, ne_0_4, ne_0_4b, ne_0_5, ne_0_5b, ne_1_0, ne_1_0b, ne_1_2, ne_1_2b, ne_1_3, ne_1_3b, ne_1_4, ne_1_4b, ne_1_5, ne_1_5b, ne_2_0, ne_2_0b, ne_2_1, ne_2_1b, ne_2_3, ne_2_3b, ne_2_4, ne_2_4b, ne_2_5, ne_2_5b, ne_3_0, ne_3_0b, ne_3_1, ne_3_1b, ne_3_2, ne_3_2b, ne_4_0, ne_4_0b, ne_4_1, ne_4_1b, ne_4_2, ne_4_2b, ne_5_0, ne_5_0b, ne_5_1, ne_5_1b, ne_5_2, ne_5_2b, cxOf, Cx.nox, Cx.wish, tSeq, tAsg, tC, gName, tIfS, tTest, tOp, tUn, rU, rI0, rI, tVar, tNext, tRevT, tDNewK, tBreak, tChain, iStr, tRet, tRetN, tDrop, tLst, tTup, tCons, tNil, tCB, tB, tOr, tAnd, tNot, tIf, tCall, tFor_eq, tLc_eq, iRng1, iRng2, iList, iTup, gTup, gTupH, gUnlH, gCons, gNil, gSub, rSetL, rIxL, rIxT, rIxLH, rIxTH, rSlTS, rCatS, rTupS, rIsiH, rLenS, V.ty.injEq, tyS_non, tyS_bl, tyS_int, tyS_str, tyS_ref, tyO_l, tyO_t, tyO_d, tyO_dt, kit_ll, kit_tt, kit_bb, kit_ii, kit_ib, kit_bi, kit_nt, kit_it, kit_st, kit_bt, kit_lt, kit_dt, kit_ni, kit_si, kit_ti, kit_li, kit_di, kit_nb, kit_ns, kit_is, kit_bs, kit_ss, kit_ts, kit_ls, kit_ds, kit_dd, lenS_ref, lenO_l, lenO_t,  rAppend, tM1, rIxS, tSl, tPart, tNoPart, tBM, tBM0, tDGetS, sDPutS, tTruS, truO_l, truO_t, truS_ref, truS_non, truS_bl, truS_int, tFld, sFld, sFldAug, rAdd, tMeth, tProp, tMake, tMakeK, List.take_succ_cons, List.take_zero, List.drop_succ_cons, List.drop_zero, List.take_nil, tIsN, tNotN, tAndV, tOrV, tNotV, putF, List.lookup, List.any_cons, List.any_nil, Sum.inr.injEq, HO.ins.injEq, HO.dK.injEq, eq_self, beq_self_eq_true, beq_iff_eq, decide_true, decide_false, Bool.or_true, Bool.true_or, Bool.or_false, Bool.false_or, tYes, rEq, rNe, _root_.L2.start, wipe, List.map_cons, List.map_nil, List.length_cons, List.length_nil, List.append_nil, Nat.reduceAdd, Nat.reduceSub, List.replicate_succ, List.replicate_zero, List.cons_append, List.nil_append, List.getElem?_cons_zero, List.getElem?_cons_succ, List.set_cons_zero, List.set_cons_succ, Option.some.injEq, V.int.injEq, V.ref.injEq, V.bl.injEq, V.str.injEq, List.cons.injEq, HO.lst.injEq, HO.tup.injEq, and_assoc, and_true, true_and, exists_eq_left, exists_eq_left', exists_and_left, exists_eq, reduceCtorEq, false_and, and_false, or_false, false_or, exists_false, decide_eq_true_eq, CPow, CDivW, Int.reducePow, Int.reduceLT, Int.reduceLE, Int.reduceNeg, Int.reduceToNat, Int.reduceAbs, Nat.reducePow, Nat.reduceLT, Nat.reduceLeDiff, sizeLine_eq, Int.reduceMul, Int.reduceAdd, Int.reduceSub, Bool.not_eq_true', decide_eq_false_iff_not, scal, Bool.not_true, Bool.not_false, Bool.true_eq_false, Bool.false_eq_true, ite_false, ite_true, if_true, if_false, ite_self, forall_const, atI0, atI1, atI2, atI3, ixN20, ixN21, upd_same, upd_upd, Int.zero_add, CMul, Int.reduceSub, Nat.le_refl, Nat.zero_le, or_true, true_or, exists_const, Int.sub_zero, sp_Marks_told])
      refine ⟨_, _, _, _, hrw.at_ _ hx, by omega, fun q zs H1 hq iz s1 => ?_⟩
      rw [toldD_tells] at iz
      have hN1 := s1 _ _ hN
      have hR1 := s1 _ _ hR
      have ix1 := Same.ims s1 ix
      refine ⟨⟨_, SqT.of hq⟩, Loop.tup zs (fun i σ H'' => ∃ b6 : Option V, σ = [some (.ref R), some (.ref N), some (.int k), some (.bl ring), some (.int (nxt n k : Nat)), some (.ref q), b6] ∧ H'' = H1) ⟨none, rfl, rfl⟩ (fun i σ H'' _ h => by obtain ⟨_, _, e⟩ := h; rw [e]; exact SqT.of hq) ?_ ?_⟩
      · rintro i x σ H2 hxz ⟨b6, rfl, e⟩
        subst e
        obtain ⟨m, hm, im⟩ := ims_mk iz hxz
        obtain ⟨a, tm, km, rfl, ha, itm, _⟩ := mD_at im
        obtain ⟨x, hxa, ixx⟩ := names_at hx ix1
        (try simp only [ne_0_1, ne_0_1b, ne_0_2, ne_0_2b, ne_0_3, ne_0_3b, ne_0_4, ne_0_4b, ne_0_5, ne_0_5b, ne_1_0, ne_1_0b, ne_1_2, ne_1_2b, ne_1_3, ne_1_3b, ne_1_4, ne_1_4b, ne_1_5, ne_1_5b, ne_2_0, ne_2_0b, ne_2_1, ne_2_1b, ne_2_3, ne_2_3b, ne_2_4, ne_2_4b, ne_2_5, ne_2_5b, ne_3_0, ne_3_0b, ne_3_1, ne_3_1b, ne_3_2, ne_3_2b, ne_4_0, ne_4_0b, ne_4_1, ne_4_1b, ne_4_2, ne_4_2b, ne_5_0, ne_5_0b, ne_5_1, ne_5_1b, ne_5_2, ne_5_2b, cxOf, Cx.nox, Cx.wish, tSeq, tAsg, tC, gName, tIfS, tTest, tOp, tUn, rU, rI0, rI, tVar, tNext, tRevT, tDNewK, tBreak, tChain, iStr, tRet, tRetN, tDrop, tLst, tTup, tCons, tNil, tCB, tB, tOr, tAnd, tNot, tIf, tCall, tFor_eq, tLc_eq, iRng1, iRng2, iList, iTup, gTup, gTupH, gUnlH, gCons, gNil, gSub, rSetL, rIxL, rIxT, rIxLH, rIxTH, rSlTS, rCatS, rTupS, rIsiH, rLenS, V.ty.injEq, tyS_non, tyS_bl, tyS_int, tyS_str, tyS_ref, tyO_l, tyO_t, tyO_d, tyO_dt, kit_ll, kit_tt, kit_bb, kit_ii, kit_ib, kit_bi, kit_nt, kit_it, kit_st, kit_bt, kit_lt, kit_dt, kit_ni, kit_si, kit_ti, kit_li, kit_di, kit_nb, kit_ns, kit_is, kit_bs, kit_ss, kit_ts, kit_ls, kit_ds, kit_dd, lenS_ref, lenO_l, lenO_t,  rAppend, tM1, rIxS, tSl, tPart, tNoPart, tBM, tBM0, tDGetS, sDPutS, tTruS, truO_l, truO_t, truS_ref, truS_non, truS_bl, truS_int, tFld, sFld, sFldAug, rAdd, tMeth, tProp, tMake, tMakeK, List.take_succ_cons, List.take_zero, List.drop_succ_cons, List.drop_zero, List.take_nil, tIsN, tNotN, tAndV, tOrV, tNotV, putF, List.lookup, List.any_cons, List.any_nil, Sum.inr.injEq, HO.ins.injEq, HO.dK.injEq, eq_self, beq_self_eq_true, beq_iff_eq, decide_true, decide_false, Bool.or_true, Bool.true_or, Bool.or_false, Bool.false_or, tYes, rEq, rNe, _root_.L2.start, wipe, List.map_cons, List.map_nil, List.length_cons, List.length_nil, List.append_nil, Nat.reduceAdd, Nat.reduceSub, List.replicate_succ, List.replicate_zero, List.cons_append, List.nil_append, List.getElem?_cons_zero, List.getElem?_cons_succ, List.set_cons_zero, List.set_cons_succ, Option.some.injEq, V.int.injEq, V.ref.injEq, V.bl.injEq, V.str.injEq, List.cons.injEq, HO.lst.injEq, HO.tup.injEq, and_assoc, and_true, true_and, exists_eq_left, exists_eq_left', exists_and_left, exists_eq, reduceCtorEq, false_and, and_false, or_false, false_or, exists_false, decide_eq_true_eq, CPow, CDivW, Int.reducePow, Int.reduceLT, Int.reduceLE, Int.reduceNeg, Int.reduceToNat, Int.reduceAbs, Nat.reducePow, Nat.reduceLT, Nat.reduceLeDiff, sizeLine_eq, Int.reduceMul, Int.reduceAdd, Int.reduceSub, Bool.not_eq_true', decide_eq_false_iff_not, scal, Bool.not_true, Bool.not_false, Bool.true_eq_false, Bool.false_eq_true, ite_false, ite_true, if_true, if_false, ite_self, forall_const, atI0, atI1, atI2, atI3, ixN20, ixN21, upd_same, upd_upd, Int.zero_add, CMul, Int.reduceSub, Nat.le_refl, Nat.zero_le, or_true, true_or, exists_const, Int.sub_zero, ha, hN1, hxa, rLtA])
        refine ⟨_, Im.dp _ _ itm, _, Im.dp _ _ ixx, tD_alike _ _, by simp [tD], by rw [tD_depth]; decide, ?_⟩
        have hlt : PySem.W.dataLt (tD m.t) (tD (nm (nxt n k))) = false := by
          rcases tells_mem.mp (List.mem_of_getElem? hm) with h | h
          · exact gt_not (hg _ hx m h)
          · rw [h, hM _ hx]; exact lt_self _
        rw [hlt, if_neg (by simp)]
        exact ⟨_, rfl⟩
      · rintro σ H2 ⟨b6, rfl, e⟩
        subst e
        (try simp only [ne_0_1, ne_0_1b, ne_0_2, ne_0_2b, ne_0_3, ne_0_3b, ne_0_4, ne_0_4b, ne_0_5, ne_0_5b, ne_1_0, ne_1_0b, ne_1_2, ne_1_2b, ne_1_3, ne_1_3b, ne_1_4, ne_1_4b, ne_1_5, ne_1_5b, ne_2_0, ne_2_0b, ne_2_1, ne_2_1b, ne_2_3, ne_2_3b, ne_2_4, ne_2_4b, ne_2_5, ne_2_5b, ne_3_0, ne_3_0b, ne_3_1, ne_3_1b, ne_3_2, ne_3_2b, ne_4_0, ne_4_0b, ne_4_1, ne_4_1b, ne_4_2, ne_4_2b, ne_5_0, ne_5_0b, ne_5_1, ne_5_1b, ne_5_2, ne_5_2b, cxOf, Cx.nox, Cx.wish, tSeq, tAsg, tC, gName, tIfS, tTest, tOp, tUn, rU, rI0, rI, tVar, tNext, tRevT, tDNewK, tBreak, tChain, iStr, tRet, tRetN, tDrop, tLst, tTup, tCons, tNil, tCB, tB, tOr, tAnd, tNot, tIf, tCall, tFor_eq, tLc_eq, iRng1, iRng2, iList, iTup, gTup, gTupH, gUnlH, gCons, gNil, gSub, rSetL, rIxL, rIxT, rIxLH, rIxTH, rSlTS, rCatS, rTupS, rIsiH, rLenS, V.ty.injEq, tyS_non, tyS_bl, tyS_int, tyS_str, tyS_ref, tyO_l, tyO_t, tyO_d, tyO_dt, kit_ll, kit_tt, kit_bb, kit_ii, kit_ib, kit_bi, kit_nt, kit_it, kit_st, kit_bt, kit_lt, kit_dt, kit_ni, kit_si, kit_ti, kit_li, kit_di, kit_nb, kit_ns, kit_is, kit_bs, kit_ss, kit_ts, kit_ls, kit_ds, kit_dd, lenS_ref, lenO_l, lenO_t,  rAppend, tM1, rIxS, tSl, tPart, tNoPart, tBM, tBM0, tDGetS, sDPutS, tTruS, truO_l, truO_t, truS_ref, truS_non, truS_bl, truS_int, tFld, sFld, sFldAug, rAdd, tMeth, tProp, tMake, tMakeK, List.take_succ_cons, List.take_zero, List.drop_succ_cons, List.drop_zero, List.take_nil, tIsN, tNotN, tAndV, tOrV, tNotV, putF, List.lookup, List.any_cons, List.any_nil, Sum.inr.injEq, HO.ins.injEq, HO.dK.injEq, eq_self, beq_self_eq_true, beq_iff_eq, decide_true, decide_false, Bool.or_true, Bool.true_or, Bool.or_false, Bool.false_or, tYes, rEq, rNe, _root_.L2.start, wipe, List.map_cons, List.map_nil, List.length_cons, List.length_nil, List.append_nil, Nat.reduceAdd, Nat.reduceSub, List.replicate_succ, List.replicate_zero, List.cons_append, List.nil_append, List.getElem?_cons_zero, List.getElem?_cons_succ, List.set_cons_zero, List.set_cons_succ, Option.some.injEq, V.int.injEq, V.ref.injEq, V.bl.injEq, V.str.injEq, List.cons.injEq, HO.lst.injEq, HO.tup.injEq, and_assoc, and_true, true_and, exists_eq_left, exists_eq_left', exists_and_left, exists_eq, reduceCtorEq, false_and, and_false, or_false, false_or, exists_false, decide_eq_true_eq, CPow, CDivW, Int.reducePow, Int.reduceLT, Int.reduceLE, Int.reduceNeg, Int.reduceToNat, Int.reduceAbs, Nat.reducePow, Nat.reduceLT, Nat.reduceLeDiff, sizeLine_eq, Int.reduceMul, Int.reduceAdd, Int.reduceSub, Bool.not_eq_true', decide_eq_false_iff_not, scal, Bool.not_true, Bool.not_false, Bool.true_eq_false, Bool.false_eq_true, ite_false, ite_true, if_true, if_false, ite_self, forall_const, atI0, atI1, atI2, atI3, ixN20, ixN21, upd_same, upd_upd, Int.zero_add, CMul, Int.reduceSub, Nat.le_refl, Nat.zero_le, or_true, true_or, exists_const, Int.sub_zero, hR1])
        obtain ⟨dx2, tv2, ov2, ws2, hp2, _⟩ := (hrw.at_ _ hk).same s1
        refine ⟨_, rowsL_at hk, _, rfl, _, _, hp2, rfl, ?_⟩
        (try simp only [ne_0_1, ne_0_1b, ne_0_2, ne_0_2b, ne_0_3, ne_0_3b, ne_0_4, ne_0_4b, ne_0_5, ne_0_5b, ne_1_0, ne_1_0b, ne_1_2, ne_1_2b, ne_1_3, ne_1_3b, ne_1_4, ne_1_4b, ne_1_5, ne_1_5b, ne_2_0, ne_2_0b, ne_2_1, ne_2_1b, ne_2_3, ne_2_3b, ne_2_4, ne_2_4b, ne_2_5, ne_2_5b, ne_3_0, ne_3_0b, ne_3_1, ne_3_1b, ne_3_2, ne_3_2b, ne_4_0, ne_4_0b, ne_4_1, ne_4_1b, ne_4_2, ne_4_2b, ne_5_0, ne_5_0b, ne_5_1, ne_5_1b, ne_5_2, ne_5_2b, cxOf, Cx.nox, Cx.wish, tSeq, tAsg, tC, gName, tIfS, tTest, tOp, tUn, rU, rI0, rI, tVar, tNext, tRevT, tDNewK, tBreak, tChain, iStr, tRet, tRetN, tDrop, tLst, tTup, tCons, tNil, tCB, tB, tOr, tAnd, tNot, tIf, tCall, tFor_eq, tLc_eq, iRng1, iRng2, iList, iTup, gTup, gTupH, gUnlH, gCons, gNil, gSub, rSetL, rIxL, rIxT, rIxLH, rIxTH, rSlTS, rCatS, rTupS, rIsiH, rLenS, V.ty.injEq, tyS_non, tyS_bl, tyS_int, tyS_str, tyS_ref, tyO_l, tyO_t, tyO_d, tyO_dt, kit_ll, kit_tt, kit_bb, kit_ii, kit_ib, kit_bi, kit_nt, kit_it, kit_st, kit_bt, kit_lt, kit_dt, kit_ni, kit_si, kit_ti, kit_li, kit_di, kit_nb, kit_ns, kit_is, kit_bs, kit_ss, kit_ts, kit_ls, kit_ds, kit_dd, lenS_ref, lenO_l, lenO_t,  rAppend, tM1, rIxS, tSl, tPart, tNoPart, tBM, tBM0, tDGetS, sDPutS, tTruS, truO_l, truO_t, truS_ref, truS_non, truS_bl, truS_int, tFld, sFld, sFldAug, rAdd, tMeth, tProp, tMake, tMakeK, List.take_succ_cons, List.take_zero, List.drop_succ_cons, List.drop_zero, List.take_nil, tIsN, tNotN, tAndV, tOrV, tNotV, putF, List.lookup, List.any_cons, List.any_nil, Sum.inr.injEq, HO.ins.injEq, HO.dK.injEq, eq_self, beq_self_eq_true, beq_iff_eq, decide_true, decide_false, Bool.or_true, Bool.true_or, Bool.or_false, Bool.false_or, tYes, rEq, rNe, _root_.L2.start, wipe, List.map_cons, List.map_nil, List.length_cons, List.length_nil, List.append_nil, Nat.reduceAdd, Nat.reduceSub, List.replicate_succ, List.replicate_zero, List.cons_append, List.nil_append, List.getElem?_cons_zero, List.getElem?_cons_succ, List.set_cons_zero, List.set_cons_succ, Option.some.injEq, V.int.injEq, V.ref.injEq, V.bl.injEq, V.str.injEq, List.cons.injEq, HO.lst.injEq, HO.tup.injEq, and_assoc, and_true, true_and, exists_eq_left, exists_eq_left', exists_and_left, exists_eq, reduceCtorEq, false_and, and_false, or_false, false_or, exists_false, decide_eq_true_eq, CPow, CDivW, Int.reducePow, Int.reduceLT, Int.reduceLE, Int.reduceNeg, Int.reduceToNat, Int.reduceAbs, Nat.reducePow, Nat.reduceLT, Nat.reduceLeDiff, sizeLine_eq, Int.reduceMul, Int.reduceAdd, Int.reduceSub, Bool.not_eq_true', decide_eq_false_iff_not, scal, Bool.not_true, Bool.not_false, Bool.true_eq_false, Bool.false_eq_true, ite_false, ite_true, if_true, if_false, ite_self, forall_const, atI0, atI1, atI2, atI3, ixN20, ixN21, upd_same, upd_upd, Int.zero_add, CMul, Int.reduceSub, Nat.le_refl, Nat.zero_le, or_true, true_or, exists_const, Int.sub_zero, sp_Marks_take])
        have hlk := hl _ hk
        have htl : (tells (M (nxt n k)) (kp (nxt n k))).length ≤ 7 := by rw [tells_len]; omega
        exact ⟨_, _, _, _, (hrw.at_ _ hk).same s1, _, im_tup hq iz, by omega, by omega, fun H3 M3 b3 => kk H3 M3 ((Bt.of s1).trans b3)⟩
def sp_law_names : Sp := fun vs H Q _ => ∃ (p : Addr), vs = [.ref p] ∧ St2 H p ∧ ∀ (l : Addr) (ts : List (Int × Int)) (xs : List V) (H' : Hp), H l = none → H' l = some (.lst xs) → ImAll H' (ts.map tD) xs → ts.Nodup → 2 ≤ ts.length → ts.length ≤ 6 → Gn p H H' → Q (.ref l) H'
theorem ok_law_names (T : Txt K mg) : FnOk P w K mg base CX0 3 T.f_law_names T.d_law_names ["_law_stream_here"] (sp_law_names) := by
  refine Fun.ok T.F_law_names sc_law_names (fun vs H Q E h => ?_) (fun cdv A outer s H vs Q E hr h => ?_)
  · obtain ⟨p, rfl, hp, kk⟩ := h; rfl
  · obtain ⟨p, rfl, hp, kk⟩ := h
    have hu := hu_of hr
    refine ⟨_, (pss_cons (ps_set (i := 1) sc_law_names.nd rfl (Or.inl rfl) (pe_lst pa_nil))
      (pss_cons (ps_for PassesOwn.never rfl (pi_range1 (by rfl) T.z_range (pa_cons (pe_op op_add pe_int (pe_call (ok_law_next T) (hr.mono (by decide)) rfl T.g_law_next T.F_law_next.kp T.b_law_next .nil pass0 (pa_cons (pv 0) (pa_cons pe_int pa_nil)))) pa_nil)) (pg_name (i := 2) sc_law_names.nd rfl (Or.inl rfl))
      (pss_cons (ps_set (i := 3) sc_law_names.nd rfl (Or.inl rfl) (pe_call (ok_law_transaction T) (hr.mono (by decide)) rfl T.g_law_transaction T.F_law_transaction.kp T.b_law_transaction .nil pass0 (pa_cons (pv 0) pa_nil)))
      (pss_one (ps_if (pt_cmpR (op_notInDK (K := K) rfl (hu65 hr)) (pv 3) (pv 1) (by rfl)) (pss_one (ps_expr (pe_bm PySem.F.plainAttrs_list PySem.F.slot_list_append PySem.F.type_list_append mt_append (pv 1) (pa_cons (pv 3) pa_nil)))) pss_nil))))
      (C8.pss_cut (ps_if (pt_cmpR op_lt (pe_callB call_lenS (by rfl) T.z_len (by decide +kernel) (pa_cons (pv 1) pa_nil)) pe_int (nomark _)) (pss_one (ps_expr (pe_bm PySem.F.plainAttrs_list PySem.F.slot_list_append PySem.F.type_list_append mt_append (pv 1) (pa_cons (pe_tup (pa_cons (pe_ix ix_tupH (pe_ix ix_listH (pv 1) pe_int (fun _ _ => rfl)) pe_int (fun _ _ => rfl)) (pa_cons (pe_op op_add (pe_ix ix_tupH (pe_ix ix_listH (pv 1) pe_int (fun _ _ => rfl)) pe_int (fun _ _ => rfl)) pe_int) pa_nil))) pa_nil)))) pss_nil)
      (pss_one (ps_ret (pv 1)))))), ?_⟩
    (try simp only [ne_0_1, ne_0_1b, ne_0_2, ne_0_2b, ne_0_3, ne_0_3b, ne_0_4, ne_0_4b, ne_0_5, ne_0_5b, ne_1_0, ne_1_0b, ne_1_2, ne_1_2b, ne_1_3, ne_1_3b, ne_1_4, ne_1_4b, ne_1_5, ne_1_5b, ne_2_0, ne_2_0b, ne_2_1, ne_2_1b, ne_2_3, ne_2_3b, ne_2_4, ne_2_4b, ne_2_5, ne_2_5b, ne_3_0, ne_3_0b, ne_3_1, ne_3_1b, ne_3_2, ne_3_2b, ne_4_0, ne_4_0b, ne_4_1, ne_4_1b, ne_4_2, ne_4_2b, ne_5_0, ne_5_0b, ne_5_1, ne_5_1b, ne_5_2, ne_5_2b, cxOf, Cx.nox, Cx.wish, tSeq, tAsg, tC, gName, tIfS, tTest, tOp, tUn, rU, rI0, rI, tVar, tNext, tRevT, tDNewK, tBreak, tChain, iStr, tRet, tRetN, tDrop, tLst, tTup, tCons, tNil, tCB, tB, tOr, tAnd, tNot, tIf, tCall, tFor_eq, tLc_eq, iRng1, iRng2, iList, iTup, gTup, gTupH, gUnlH, gCons, gNil, gSub, rSetL, rIxL, rIxT, rIxLH, rIxTH, rSlTS, rCatS, rTupS, rIsiH, rLenS, V.ty.injEq, tyS_non, tyS_bl, tyS_int, tyS_str, tyS_ref, tyO_l, tyO_t, tyO_d, tyO_dt, kit_ll, kit_tt, kit_bb, kit_ii, kit_ib, kit_bi, kit_nt, kit_it, kit_st, kit_bt, kit_lt, kit_dt, kit_ni, kit_si, kit_ti, kit_li, kit_di, kit_nb, kit_ns, kit_is, kit_bs, kit_ss, kit_ts, kit_ls, kit_ds, kit_dd, lenS_ref, lenO_l, lenO_t,  rAppend, tM1, rIxS, tSl, tPart, tNoPart, tBM, tBM0, tDGetS, sDPutS, tTruS, truO_l, truO_t, truS_ref, truS_non, truS_bl, truS_int, tFld, sFld, sFldAug, rAdd, tMeth, tProp, tMake, tMakeK, List.take_succ_cons, List.take_zero, List.drop_succ_cons, List.drop_zero, List.take_nil, tIsN, tNotN, tAndV, tOrV, tNotV, putF, List.lookup, List.any_cons, List.any_nil, Sum.inr.injEq, HO.ins.injEq, HO.dK.injEq, eq_self, beq_self_eq_true, beq_iff_eq, decide_true, decide_false, Bool.or_true, Bool.true_or, Bool.or_false, Bool.false_or, tYes, rEq, rNe, _root_.L2.start, wipe, List.map_cons, List.map_nil, List.length_cons, List.length_nil, List.append_nil, Nat.reduceAdd, Nat.reduceSub, List.replicate_succ, List.replicate_zero, List.cons_append, List.nil_append, List.getElem?_cons_zero, List.getElem?_cons_succ, List.set_cons_zero, List.set_cons_succ, Option.some.injEq, V.int.injEq, V.ref.injEq, V.bl.injEq, V.str.injEq, List.cons.injEq, HO.lst.injEq, HO.tup.injEq, and_assoc, and_true, true_and, exists_eq_left, exists_eq_left', exists_and_left, exists_eq, reduceCtorEq, false_and, and_false, or_false, false_or, exists_false, decide_eq_true_eq, CPow, CDivW, Int.reducePow, Int.reduceLT, Int.reduceLE, Int.reduceNeg, Int.reduceToNat, Int.reduceAbs, Nat.reducePow, Nat.reduceLT, Nat.reduceLeDiff, sizeLine_eq, Int.reduceMul, Int.reduceAdd, Int.reduceSub, Bool.not_eq_true', decide_eq_false_iff_not, scal, Bool.not_true, Bool.not_false, Bool.true_eq_false, Bool.false_eq_true, ite_false, ite_true, if_true, if_false, ite_self, forall_const, atI0, atI1, atI2, atI3, ixN20, ixN21, upd_same, upd_upd, Int.zero_add, CMul, Int.reduceSub, Nat.le_refl, Nat.zero_le, or_true, true_or, exists_const, Int.sub_zero, sp_law_next])
    intro l hl
    have nlp : l ≠ p := St2.nn hp hl
    refine ⟨hp.new hl, fun n H1 n0 n1 g1 => ⟨by omega, by omega, ?_⟩⟩
    have g0 : Gn p H H1 := ((Gn.refl hp).new hl).trans g1
    have e1 := g1.at upd_same nlp
    refine Loop.range (fun i σ H' => ∃ (ts : List (Int × Int)) (xs : List V) (b2 b3 : Option V), σ = [some (.ref p), some (.ref l), b2, b3] ∧ H' l = some (.lst xs) ∧ ImAll H' (ts.map tD) xs ∧ ts.Nodup ∧ ts.length ≤ i ∧ (0 < i → 1 ≤ ts.length) ∧ Gn p H H') ⟨[], [], none, none, rfl, e1, im_nil, List.nodup_nil, by simp, by simp, g0⟩ ?_ ?_
    · rintro i σ H2 hi ⟨ts, xs, b2, b3, rfl, e2, ix, nd, hle, hge, g2⟩
      have hxl := ix.len
      rw [List.length_map] at hxl
      (try simp only [ne_0_1, ne_0_1b, ne_0_2, ne_0_2b, ne_0_3, ne_0_3b, ne_0_4, ne_0_4b, ne_0_5, ne_0_5b, ne_1_0, ne_1_0b, ne_1_2, ne_1_2b, ne_1_3, ne_1_3b, ne_1_4, ne_1_4b, ne_1_5, ne_1_5b, ne_2_0, ne_2_0b, ne_2_1, ne_2_1b, ne_2_3, ne_2_3b, ne_2_4, ne_2_4b, ne_2_5, ne_2_5b, ne_3_0, ne_3_0b, ne_3_1, ne_3_1b, ne_3_2, ne_3_2b, ne_4_0, ne_4_0b, ne_4_1, ne_4_1b, ne_4_2, ne_4_2b, ne_5_0, ne_5_0b, ne_5_1, ne_5_1b, ne_5_2, ne_5_2b, cxOf, Cx.nox, Cx.wish, tSeq, tAsg, tC, gName, tIfS, tTest, tOp, tUn, rU, rI0, rI, tVar, tNext, tRevT, tDNewK, tBreak, tChain, iStr, tRet, tRetN, tDrop, tLst, tTup, tCons, tNil, tCB, tB, tOr, tAnd, tNot, tIf, tCall, tFor_eq, tLc_eq, iRng1, iRng2, iList, iTup, gTup, gTupH, gUnlH, gCons, gNil, gSub, rSetL, rIxL, rIxT, rIxLH, rIxTH, rSlTS, rCatS, rTupS, rIsiH, rLenS, V.ty.injEq, tyS_non, tyS_bl, tyS_int, tyS_str, tyS_ref, tyO_l, tyO_t, tyO_d, tyO_dt, kit_ll, kit_tt, kit_bb, kit_ii, kit_ib, kit_bi, kit_nt, kit_it, kit_st, kit_bt, kit_lt, kit_dt, kit_ni, kit_si, kit_ti, kit_li, kit_di, kit_nb, kit_ns, kit_is, kit_bs, kit_ss, kit_ts, kit_ls, kit_ds, kit_dd, lenS_ref, lenO_l, lenO_t,  rAppend, tM1, rIxS, tSl, tPart, tNoPart, tBM, tBM0, tDGetS, sDPutS, tTruS, truO_l, truO_t, truS_ref, truS_non, truS_bl, truS_int, tFld, sFld, sFldAug, rAdd, tMeth, tProp, tMake, tMakeK, List.take_succ_cons, List.take_zero, List.drop_succ_cons, List.drop_zero, List.take_nil, tIsN, tNotN, tAndV, tOrV, tNotV, putF, List.lookup, List.any_cons, List.any_nil, Sum.inr.injEq, HO.ins.injEq, HO.dK.injEq, eq_self, beq_self_eq_true, beq_iff_eq, decide_true, decide_false, Bool.or_true, Bool.true_or, Bool.or_false, Bool.false_or, tYes, rEq, rNe, _root_.L2.start, wipe, List.map_cons, List.map_nil, List.length_cons, List.length_nil, List.append_nil, Nat.reduceAdd, Nat.reduceSub, List.replicate_succ, List.replicate_zero, List.cons_append, List.nil_append, List.getElem?_cons_zero, List.getElem?_cons_succ, List.set_cons_zero, List.set_cons_succ, Option.some.injEq, V.int.injEq, V.ref.injEq, V.bl.injEq, V.str.injEq, List.cons.injEq, HO.lst.injEq, HO.tup.injEq, and_assoc, and_true, true_and, exists_eq_left, exists_eq_left', exists_and_left, exists_eq, reduceCtorEq, false_and, and_false, or_false, false_or, exists_false, decide_eq_true_eq, CPow, CDivW, Int.reducePow, Int.reduceLT, Int.reduceLE, Int.reduceNeg, Int.reduceToNat, Int.reduceAbs, Nat.reducePow, Nat.reduceLT, Nat.reduceLeDiff, sizeLine_eq, Int.reduceMul, Int.reduceAdd, Int.reduceSub, Bool.not_eq_true', decide_eq_false_iff_not, scal, Bool.not_true, Bool.not_false, Bool.true_eq_false, Bool.false_eq_true, ite_false, ite_true, if_true, if_false, ite_self, forall_const, atI0, atI1, atI2, atI3, ixN20, ixN21, upd_same, upd_upd, Int.zero_add, CMul, Int.reduceSub, Nat.le_refl, Nat.zero_le, or_true, true_or, exists_const, Int.sub_zero, sp_law_transaction])
      refine ⟨g2.st, fun v t H3 it g3 => ?_⟩
      have e3 := g3.at e2 nlp
      (try simp only [ne_0_1, ne_0_1b, ne_0_2, ne_0_2b, ne_0_3, ne_0_3b, ne_0_4, ne_0_4b, ne_0_5, ne_0_5b, ne_1_0, ne_1_0b, ne_1_2, ne_1_2b, ne_1_3, ne_1_3b, ne_1_4, ne_1_4b, ne_1_5, ne_1_5b, ne_2_0, ne_2_0b, ne_2_1, ne_2_1b, ne_2_3, ne_2_3b, ne_2_4, ne_2_4b, ne_2_5, ne_2_5b, ne_3_0, ne_3_0b, ne_3_1, ne_3_1b, ne_3_2, ne_3_2b, ne_4_0, ne_4_0b, ne_4_1, ne_4_1b, ne_4_2, ne_4_2b, ne_5_0, ne_5_0b, ne_5_1, ne_5_1b, ne_5_2, ne_5_2b, cxOf, Cx.nox, Cx.wish, tSeq, tAsg, tC, gName, tIfS, tTest, tOp, tUn, rU, rI0, rI, tVar, tNext, tRevT, tDNewK, tBreak, tChain, iStr, tRet, tRetN, tDrop, tLst, tTup, tCons, tNil, tCB, tB, tOr, tAnd, tNot, tIf, tCall, tFor_eq, tLc_eq, iRng1, iRng2, iList, iTup, gTup, gTupH, gUnlH, gCons, gNil, gSub, rSetL, rIxL, rIxT, rIxLH, rIxTH, rSlTS, rCatS, rTupS, rIsiH, rLenS, V.ty.injEq, tyS_non, tyS_bl, tyS_int, tyS_str, tyS_ref, tyO_l, tyO_t, tyO_d, tyO_dt, kit_ll, kit_tt, kit_bb, kit_ii, kit_ib, kit_bi, kit_nt, kit_it, kit_st, kit_bt, kit_lt, kit_dt, kit_ni, kit_si, kit_ti, kit_li, kit_di, kit_nb, kit_ns, kit_is, kit_bs, kit_ss, kit_ts, kit_ls, kit_ds, kit_dd, lenS_ref, lenO_l, lenO_t,  rAppend, tM1, rIxS, tSl, tPart, tNoPart, tBM, tBM0, tDGetS, sDPutS, tTruS, truO_l, truO_t, truS_ref, truS_non, truS_bl, truS_int, tFld, sFld, sFldAug, rAdd, tMeth, tProp, tMake, tMakeK, List.take_succ_cons, List.take_zero, List.drop_succ_cons, List.drop_zero, List.take_nil, tIsN, tNotN, tAndV, tOrV, tNotV, putF, List.lookup, List.any_cons, List.any_nil, Sum.inr.injEq, HO.ins.injEq, HO.dK.injEq, eq_self, beq_self_eq_true, beq_iff_eq, decide_true, decide_false, Bool.or_true, Bool.true_or, Bool.or_false, Bool.false_or, tYes, rEq, rNe, _root_.L2.start, wipe, List.map_cons, List.map_nil, List.length_cons, List.length_nil, List.append_nil, Nat.reduceAdd, Nat.reduceSub, List.replicate_succ, List.replicate_zero, List.cons_append, List.nil_append, List.getElem?_cons_zero, List.getElem?_cons_succ, List.set_cons_zero, List.set_cons_succ, Option.some.injEq, V.int.injEq, V.ref.injEq, V.bl.injEq, V.str.injEq, List.cons.injEq, HO.lst.injEq, HO.tup.injEq, and_assoc, and_true, true_and, exists_eq_left, exists_eq_left', exists_and_left, exists_eq, reduceCtorEq, false_and, and_false, or_false, false_or, exists_false, decide_eq_true_eq, CPow, CDivW, Int.reducePow, Int.reduceLT, Int.reduceLE, Int.reduceNeg, Int.reduceToNat, Int.reduceAbs, Nat.reducePow, Nat.reduceLT, Nat.reduceLeDiff, sizeLine_eq, Int.reduceMul, Int.reduceAdd, Int.reduceSub, Bool.not_eq_true', decide_eq_false_iff_not, scal, Bool.not_true, Bool.not_false, Bool.true_eq_false, Bool.false_eq_true, ite_false, ite_true, if_true, if_false, ite_self, forall_const, atI0, atI1, atI2, atI3, ixN20, ixN21, upd_same, upd_upd, Int.zero_add, CMul, Int.reduceSub, Nat.le_refl, Nat.zero_le, or_true, true_or, exists_const, Int.sub_zero, rNotInD, e3])
      have ix3 := g3.ims ix
      refine ⟨_, Im.dp _ _ it, _, .lst (SqL.of e3) (ImAll.dp _ _ ix3), tD_shaped _, tDs_shaped _, ?_⟩
      rw [tDs_any]
      by_cases hm : t ∈ ts
      · rw [if_neg (by simpa using hm)]
        exact ⟨ts, ix3, nd, by omega, fun _ => List.length_pos_of_mem hm, g2.trans g3⟩
      · rw [if_pos (by simpa using hm)]
        exact ⟨tyL e3, by omega, ts ++ [t], by rw [List.map_append]; exact ims_app e3 ix3 it, nd_snoc nd hm, by simp; omega, by simp, (g2.trans g3).put hl nlp⟩
    · rintro σ H2 ⟨ts, xs, b2, b3, rfl, e2, ix, nd, hle, hge, g2⟩
      have hxl := ix.len
      rw [List.length_map] at hxl
      (try simp only [ne_0_1, ne_0_1b, ne_0_2, ne_0_2b, ne_0_3, ne_0_3b, ne_0_4, ne_0_4b, ne_0_5, ne_0_5b, ne_1_0, ne_1_0b, ne_1_2, ne_1_2b, ne_1_3, ne_1_3b, ne_1_4, ne_1_4b, ne_1_5, ne_1_5b, ne_2_0, ne_2_0b, ne_2_1, ne_2_1b, ne_2_3, ne_2_3b, ne_2_4, ne_2_4b, ne_2_5, ne_2_5b, ne_3_0, ne_3_0b, ne_3_1, ne_3_1b, ne_3_2, ne_3_2b, ne_4_0, ne_4_0b, ne_4_1, ne_4_1b, ne_4_2, ne_4_2b, ne_5_0, ne_5_0b, ne_5_1, ne_5_1b, ne_5_2, ne_5_2b, cxOf, Cx.nox, Cx.wish, tSeq, tAsg, tC, gName, tIfS, tTest, tOp, tUn, rU, rI0, rI, tVar, tNext, tRevT, tDNewK, tBreak, tChain, iStr, tRet, tRetN, tDrop, tLst, tTup, tCons, tNil, tCB, tB, tOr, tAnd, tNot, tIf, tCall, tFor_eq, tLc_eq, iRng1, iRng2, iList, iTup, gTup, gTupH, gUnlH, gCons, gNil, gSub, rSetL, rIxL, rIxT, rIxLH, rIxTH, rSlTS, rCatS, rTupS, rIsiH, rLenS, V.ty.injEq, tyS_non, tyS_bl, tyS_int, tyS_str, tyS_ref, tyO_l, tyO_t, tyO_d, tyO_dt, kit_ll, kit_tt, kit_bb, kit_ii, kit_ib, kit_bi, kit_nt, kit_it, kit_st, kit_bt, kit_lt, kit_dt, kit_ni, kit_si, kit_ti, kit_li, kit_di, kit_nb, kit_ns, kit_is, kit_bs, kit_ss, kit_ts, kit_ls, kit_ds, kit_dd, lenS_ref, lenO_l, lenO_t,  rAppend, tM1, rIxS, tSl, tPart, tNoPart, tBM, tBM0, tDGetS, sDPutS, tTruS, truO_l, truO_t, truS_ref, truS_non, truS_bl, truS_int, tFld, sFld, sFldAug, rAdd, tMeth, tProp, tMake, tMakeK, List.take_succ_cons, List.take_zero, List.drop_succ_cons, List.drop_zero, List.take_nil, tIsN, tNotN, tAndV, tOrV, tNotV, putF, List.lookup, List.any_cons, List.any_nil, Sum.inr.injEq, HO.ins.injEq, HO.dK.injEq, eq_self, beq_self_eq_true, beq_iff_eq, decide_true, decide_false, Bool.or_true, Bool.true_or, Bool.or_false, Bool.false_or, tYes, rEq, rNe, _root_.L2.start, wipe, List.map_cons, List.map_nil, List.length_cons, List.length_nil, List.append_nil, Nat.reduceAdd, Nat.reduceSub, List.replicate_succ, List.replicate_zero, List.cons_append, List.nil_append, List.getElem?_cons_zero, List.getElem?_cons_succ, List.set_cons_zero, List.set_cons_succ, Option.some.injEq, V.int.injEq, V.ref.injEq, V.bl.injEq, V.str.injEq, List.cons.injEq, HO.lst.injEq, HO.tup.injEq, and_assoc, and_true, true_and, exists_eq_left, exists_eq_left', exists_and_left, exists_eq, reduceCtorEq, false_and, and_false, or_false, false_or, exists_false, decide_eq_true_eq, CPow, CDivW, Int.reducePow, Int.reduceLT, Int.reduceLE, Int.reduceNeg, Int.reduceToNat, Int.reduceAbs, Nat.reducePow, Nat.reduceLT, Nat.reduceLeDiff, sizeLine_eq, Int.reduceMul, Int.reduceAdd, Int.reduceSub, Bool.not_eq_true', decide_eq_false_iff_not, scal, Bool.not_true, Bool.not_false, Bool.true_eq_false, Bool.false_eq_true, ite_false, ite_true, if_true, if_false, ite_self, forall_const, atI0, atI1, atI2, atI3, ixN20, ixN21, upd_same, upd_upd, Int.zero_add, CMul, Int.reduceSub, Nat.le_refl, Nat.zero_le, or_true, true_or, exists_const, Int.sub_zero, e2])
      refine cutI (fun σ H' => ∃ (ts : List (Int × Int)) (xs : List V), σ = [some (.ref p), some (.ref l), b2, b3] ∧ H' l = some (.lst xs) ∧ ImAll H' (ts.map tD) xs ∧ ts.Nodup ∧ 2 ≤ ts.length ∧ ts.length ≤ 6 ∧ Gn p H H') ?_ ?_
      · (try simp only [ne_0_1, ne_0_1b, ne_0_2, ne_0_2b, ne_0_3, ne_0_3b, ne_0_4, ne_0_4b, ne_0_5, ne_0_5b, ne_1_0, ne_1_0b, ne_1_2, ne_1_2b, ne_1_3, ne_1_3b, ne_1_4, ne_1_4b, ne_1_5, ne_1_5b, ne_2_0, ne_2_0b, ne_2_1, ne_2_1b, ne_2_3, ne_2_3b, ne_2_4, ne_2_4b, ne_2_5, ne_2_5b, ne_3_0, ne_3_0b, ne_3_1, ne_3_1b, ne_3_2, ne_3_2b, ne_4_0, ne_4_0b, ne_4_1, ne_4_1b, ne_4_2, ne_4_2b, ne_5_0, ne_5_0b, ne_5_1, ne_5_1b, ne_5_2, ne_5_2b, cxOf, Cx.nox, Cx.wish, tSeq, tAsg, tC, gName, tIfS, tTest, tOp, tUn, rU, rI0, rI, tVar, tNext, tRevT, tDNewK, tBreak, tChain, iStr, tRet, tRetN, tDrop, tLst, tTup, tCons, tNil, tCB, tB, tOr, tAnd, tNot, tIf, tCall, tFor_eq, tLc_eq, iRng1, iRng2, iList, iTup, gTup, gTupH, gUnlH, gCons, gNil, gSub, rSetL, rIxL, rIxT, rIxLH, rIxTH, rSlTS, rCatS, rTupS, rIsiH, rLenS, V.ty.injEq, tyS_non, tyS_bl, tyS_int, tyS_str, tyS_ref, tyO_l, tyO_t, tyO_d, tyO_dt, kit_ll, kit_tt, kit_bb, kit_ii, kit_ib, kit_bi, kit_nt, kit_it, kit_st, kit_bt, kit_lt, kit_dt, kit_ni, kit_si, kit_ti, kit_li, kit_di, kit_nb, kit_ns, kit_is, kit_bs, kit_ss, kit_ts, kit_ls, kit_ds, kit_dd, lenS_ref, lenO_l, lenO_t,  rAppend, tM1, rIxS, tSl, tPart, tNoPart, tBM, tBM0, tDGetS, sDPutS, tTruS, truO_l, truO_t, truS_ref, truS_non, truS_bl, truS_int, tFld, sFld, sFldAug, rAdd, tMeth, tProp, tMake, tMakeK, List.take_succ_cons, List.take_zero, List.drop_succ_cons, List.drop_zero, List.take_nil, tIsN, tNotN, tAndV, tOrV, tNotV, putF, List.lookup, List.any_cons, List.any_nil, Sum.inr.injEq, HO.ins.injEq, HO.dK.injEq, eq_self, beq_self_eq_true, beq_iff_eq, decide_true, decide_false, Bool.or_true, Bool.true_or, Bool.or_false, Bool.false_or, tYes, rEq, rNe, _root_.L2.start, wipe, List.map_cons, List.map_nil, List.length_cons, List.length_nil, List.append_nil, Nat.reduceAdd, Nat.reduceSub, List.replicate_succ, List.replicate_zero, List.cons_append, List.nil_append, List.getElem?_cons_zero, List.getElem?_cons_succ, List.set_cons_zero, List.set_cons_succ, Option.some.injEq, V.int.injEq, V.ref.injEq, V.bl.injEq, V.str.injEq, List.cons.injEq, HO.lst.injEq, HO.tup.injEq, and_assoc, and_true, true_and, exists_eq_left, exists_eq_left', exists_and_left, exists_eq, reduceCtorEq, false_and, and_false, or_false, false_or, exists_false, decide_eq_true_eq, CPow, CDivW, Int.reducePow, Int.reduceLT, Int.reduceLE, Int.reduceNeg, Int.reduceToNat, Int.reduceAbs, Nat.reducePow, Nat.reduceLT, Nat.reduceLeDiff, sizeLine_eq, Int.reduceMul, Int.reduceAdd, Int.reduceSub, Bool.not_eq_true', decide_eq_false_iff_not, scal, Bool.not_true, Bool.not_false, Bool.true_eq_false, Bool.false_eq_true, ite_false, ite_true, if_true, if_false, ite_self, forall_const, atI0, atI1, atI2, atI3, ixN20, ixN21, upd_same, upd_upd, Int.zero_add, CMul, Int.reduceSub, Nat.le_refl, Nat.zero_le, or_true, true_or, exists_const, Int.sub_zero, e2])
        by_cases h2 : xs.length < 2
        · rw [if_pos (by omega)]
          have h1 : ts.length = 1 := by have := hge (by omega); omega
          obtain ⟨t, rfl⟩ := List.length_eq_one_iff.mp h1
          simp only [List.map_cons, List.map_nil, ImAll] at ix
          obtain ⟨v, r, rfl, iv, rfl⟩ := ix
          obtain ⟨q, rfl, hq⟩ := tD_at iv
          (try simp only [ne_0_1, ne_0_1b, ne_0_2, ne_0_2b, ne_0_3, ne_0_3b, ne_0_4, ne_0_4b, ne_0_5, ne_0_5b, ne_1_0, ne_1_0b, ne_1_2, ne_1_2b, ne_1_3, ne_1_3b, ne_1_4, ne_1_4b, ne_1_5, ne_1_5b, ne_2_0, ne_2_0b, ne_2_1, ne_2_1b, ne_2_3, ne_2_3b, ne_2_4, ne_2_4b, ne_2_5, ne_2_5b, ne_3_0, ne_3_0b, ne_3_1, ne_3_1b, ne_3_2, ne_3_2b, ne_4_0, ne_4_0b, ne_4_1, ne_4_1b, ne_4_2, ne_4_2b, ne_5_0, ne_5_0b, ne_5_1, ne_5_1b, ne_5_2, ne_5_2b, cxOf, Cx.nox, Cx.wish, tSeq, tAsg, tC, gName, tIfS, tTest, tOp, tUn, rU, rI0, rI, tVar, tNext, tRevT, tDNewK, tBreak, tChain, iStr, tRet, tRetN, tDrop, tLst, tTup, tCons, tNil, tCB, tB, tOr, tAnd, tNot, tIf, tCall, tFor_eq, tLc_eq, iRng1, iRng2, iList, iTup, gTup, gTupH, gUnlH, gCons, gNil, gSub, rSetL, rIxL, rIxT, rIxLH, rIxTH, rSlTS, rCatS, rTupS, rIsiH, rLenS, V.ty.injEq, tyS_non, tyS_bl, tyS_int, tyS_str, tyS_ref, tyO_l, tyO_t, tyO_d, tyO_dt, kit_ll, kit_tt, kit_bb, kit_ii, kit_ib, kit_bi, kit_nt, kit_it, kit_st, kit_bt, kit_lt, kit_dt, kit_ni, kit_si, kit_ti, kit_li, kit_di, kit_nb, kit_ns, kit_is, kit_bs, kit_ss, kit_ts, kit_ls, kit_ds, kit_dd, lenS_ref, lenO_l, lenO_t,  rAppend, tM1, rIxS, tSl, tPart, tNoPart, tBM, tBM0, tDGetS, sDPutS, tTruS, truO_l, truO_t, truS_ref, truS_non, truS_bl, truS_int, tFld, sFld, sFldAug, rAdd, tMeth, tProp, tMake, tMakeK, List.take_succ_cons, List.take_zero, List.drop_succ_cons, List.drop_zero, List.take_nil, tIsN, tNotN, tAndV, tOrV, tNotV, putF, List.lookup, List.any_cons, List.any_nil, Sum.inr.injEq, HO.ins.injEq, HO.dK.injEq, eq_self, beq_self_eq_true, beq_iff_eq, decide_true, decide_false, Bool.or_true, Bool.true_or, Bool.or_false, Bool.false_or, tYes, rEq, rNe, _root_.L2.start, wipe, List.map_cons, List.map_nil, List.length_cons, List.length_nil, List.append_nil, Nat.reduceAdd, Nat.reduceSub, List.replicate_succ, List.replicate_zero, List.cons_append, List.nil_append, List.getElem?_cons_zero, List.getElem?_cons_succ, List.set_cons_zero, List.set_cons_succ, Option.some.injEq, V.int.injEq, V.ref.injEq, V.bl.injEq, V.str.injEq, List.cons.injEq, HO.lst.injEq, HO.tup.injEq, and_assoc, and_true, true_and, exists_eq_left, exists_eq_left', exists_and_left, exists_eq, reduceCtorEq, false_and, and_false, or_false, false_or, exists_false, decide_eq_true_eq, CPow, CDivW, Int.reducePow, Int.reduceLT, Int.reduceLE, Int.reduceNeg, Int.reduceToNat, Int.reduceAbs, Nat.reducePow, Nat.reduceLT, Nat.reduceLeDiff, sizeLine_eq, Int.reduceMul, Int.reduceAdd, Int.reduceSub, Bool.not_eq_true', decide_eq_false_iff_not, scal, Bool.not_true, Bool.not_false, Bool.true_eq_false, Bool.false_eq_true, ite_false, ite_true, if_true, if_false, ite_self, forall_const, atI0, atI1, atI2, atI3, ixN20, ixN21, upd_same, upd_upd, Int.zero_add, CMul, Int.reduceSub, Nat.le_refl, Nat.zero_le, or_true, true_or, exists_const, Int.sub_zero, hq])
          refine ⟨tyL e2, fun q2 hq2 => ?_⟩
          have e2' := get_new hq2 e2 (o := .tup [.int t.1, .int (t.2 + 1)])
          have iv2 := imNew hq2 iv (o := .tup [.int t.1, .int (t.2 + 1)])
          refine ⟨_, e2', by simp, [t, (t.1, t.2 + 1)], ?_, ?_, by simp, by simp, (g2.new hq2).put hl nlp⟩
          · have it2 : Im (upd H2 q2 (.tup [.int t.1, .int (t.2 + 1)])) (tD (t.1, t.2 + 1)) (.ref q2) := im_tup upd_same (im_cons im_int (im_cons im_int im_nil))
            exact imsPut e2' (im_cons iv2 (im_cons it2 im_nil))
          · refine List.nodup_cons.mpr ⟨?_, by simp⟩
            rw [List.mem_singleton]
            intro z
            have := congrArg Prod.snd z
            simp only at this
            omega
        · rw [if_neg (by omega)]
          exact ⟨ts, ix, nd, by omega, by omega, g2⟩
      · rintro σ H3 ⟨ts, xs, rfl, e3, ix, nd, h2, h6, g3⟩
        (try simp only [ne_0_1, ne_0_1b, ne_0_2, ne_0_2b, ne_0_3, ne_0_3b, ne_0_4, ne_0_4b, ne_0_5, ne_0_5b, ne_1_0, ne_1_0b, ne_1_2, ne_1_2b, ne_1_3, ne_1_3b, ne_1_4, ne_1_4b, ne_1_5, ne_1_5b, ne_2_0, ne_2_0b, ne_2_1, ne_2_1b, ne_2_3, ne_2_3b, ne_2_4, ne_2_4b, ne_2_5, ne_2_5b, ne_3_0, ne_3_0b, ne_3_1, ne_3_1b, ne_3_2, ne_3_2b, ne_4_0, ne_4_0b, ne_4_1, ne_4_1b, ne_4_2, ne_4_2b, ne_5_0, ne_5_0b, ne_5_1, ne_5_1b, ne_5_2, ne_5_2b, cxOf, Cx.nox, Cx.wish, tSeq, tAsg, tC, gName, tIfS, tTest, tOp, tUn, rU, rI0, rI, tVar, tNext, tRevT, tDNewK, tBreak, tChain, iStr, tRet, tRetN, tDrop, tLst, tTup, tCons, tNil, tCB, tB, tOr, tAnd, tNot, tIf, tCall, tFor_eq, tLc_eq, iRng1, iRng2, iList, iTup, gTup, gTupH, gUnlH, gCons, gNil, gSub, rSetL, rIxL, rIxT, rIxLH, rIxTH, rSlTS, rCatS, rTupS, rIsiH, rLenS, V.ty.injEq, tyS_non, tyS_bl, tyS_int, tyS_str, tyS_ref, tyO_l, tyO_t, tyO_d, tyO_dt, kit_ll, kit_tt, kit_bb, kit_ii, kit_ib, kit_bi, kit_nt, kit_it, kit_st, kit_bt, kit_lt, kit_dt, kit_ni, kit_si, kit_ti, kit_li, kit_di, kit_nb, kit_ns, kit_is, kit_bs, kit_ss, kit_ts, kit_ls, kit_ds, kit_dd, lenS_ref, lenO_l, lenO_t,  rAppend, tM1, rIxS, tSl, tPart, tNoPart, tBM, tBM0, tDGetS, sDPutS, tTruS, truO_l, truO_t, truS_ref, truS_non, truS_bl, truS_int, tFld, sFld, sFldAug, rAdd, tMeth, tProp, tMake, tMakeK, List.take_succ_cons, List.take_zero, List.drop_succ_cons, List.drop_zero, List.take_nil, tIsN, tNotN, tAndV, tOrV, tNotV, putF, List.lookup, List.any_cons, List.any_nil, Sum.inr.injEq, HO.ins.injEq, HO.dK.injEq, eq_self, beq_self_eq_true, beq_iff_eq, decide_true, decide_false, Bool.or_true, Bool.true_or, Bool.or_false, Bool.false_or, tYes, rEq, rNe, _root_.L2.start, wipe, List.map_cons, List.map_nil, List.length_cons, List.length_nil, List.append_nil, Nat.reduceAdd, Nat.reduceSub, List.replicate_succ, List.replicate_zero, List.cons_append, List.nil_append, List.getElem?_cons_zero, List.getElem?_cons_succ, List.set_cons_zero, List.set_cons_succ, Option.some.injEq, V.int.injEq, V.ref.injEq, V.bl.injEq, V.str.injEq, List.cons.injEq, HO.lst.injEq, HO.tup.injEq, and_assoc, and_true, true_and, exists_eq_left, exists_eq_left', exists_and_left, exists_eq, reduceCtorEq, false_and, and_false, or_false, false_or, exists_false, decide_eq_true_eq, CPow, CDivW, Int.reducePow, Int.reduceLT, Int.reduceLE, Int.reduceNeg, Int.reduceToNat, Int.reduceAbs, Nat.reducePow, Nat.reduceLT, Nat.reduceLeDiff, sizeLine_eq, Int.reduceMul, Int.reduceAdd, Int.reduceSub, Bool.not_eq_true', decide_eq_false_iff_not, scal, Bool.not_true, Bool.not_false, Bool.true_eq_false, Bool.false_eq_true, ite_false, ite_true, if_true, if_false, ite_self, forall_const, atI0, atI1, atI2, atI3, ixN20, ixN21, upd_same, upd_upd, Int.zero_add, CMul, Int.reduceSub, Nat.le_refl, Nat.zero_le, or_true, true_or, exists_const, Int.sub_zero])
        exact kk l ts xs H3 hl e3 ix nd h2 h6 g3

theorem ok_law (T : Txt K mg) : FnOk P w K mg base CX0 4 T.f_law T.d_law ["_law_script"] (spLaw K) := by
  refine Fun.ok T.F_law sc_law (fun vs H Q E h => ?_) (fun cdv A outer s H vs Q E hr h => ?_)
  · obtain ⟨a, ns, rfl, hS, hlen, kk⟩ := h; rfl
  · obtain ⟨a, ns, rfl, hS, hlen, kk⟩ := h
    have hu := hu_of hr
    refine ⟨_, (pss_cons (ps_set (i := 1) sc_law.nd rfl (Or.inl rfl) pe_int)
      (C8.pss_cut (ps_if (pt_cmpR op_gt (pe_callB call_len (by rfl) T.z_len (by decide +kernel) (pa_cons (pv 0) pa_nil)) pe_int (nomark _)) (pss_one (ps_set (i := 1) sc_law.nd rfl (Or.inl rfl) (pe_ix ix_list (pv 0) pe_int (fun _ _ => rfl)))) pss_nil)
      (pss_cons (ps_set (i := 2) sc_law.nd rfl (Or.inl rfl) (pe_call (ok_law_stream T) (hr.mono (by decide)) rfl T.g_law_stream T.F_law_stream.kp T.b_law_stream .nil pass0 (pa_cons (pv 1) (pa_cons pe_int pa_nil))))
      (pss_cons (ps_set (i := 3) sc_law.nd rfl (Or.inl rfl) (pe_call (ok_law_names T) (hr.mono (by decide)) rfl T.g_law_names T.F_law_names.kp T.b_law_names .nil pass0 (pa_cons (pv 2) pa_nil)))
      (pss_cons (ps_set (i := 4) sc_law.nd rfl (Or.inl rfl) (pe_cmpR op_eq (pe_call (ok_law_next T) (hr.mono (by decide)) rfl T.g_law_next T.F_law_next.kp T.b_law_next .nil pass0 (pa_cons (pv 2) (pa_cons pe_int pa_nil))) pe_int (nomark _)))
      (pss_cons (ps_set (i := 5) sc_law.nd rfl (Or.inl rfl) (pe_lst pa_nil))
      (pss_cons (ps_for PassesOwn.never rfl (pi_range1 (by rfl) T.z_range (pa_cons (pe_callB call_lenS (by rfl) T.z_len (by decide +kernel) (pa_cons (pv 3) pa_nil)) pa_nil)) (pg_name (i := 6) sc_law.nd rfl (Or.inl rfl))
      (pss_cons (ps_expr (pe_bm PySem.F.plainAttrs_list PySem.F.slot_list_append PySem.F.type_list_append mt_append (pv 5) (pa_cons (pe_make T.M_Marks (ok_Marks_init T) (hr.mono (by decide)) rfl T.gC_Marks T.b_Marks_init .nil pass0 (pa_cons (pe_ix ix_listH (pv 3) (pv 6) (fun _ _ => rfl)) pa_nil)) pa_nil)))
      (pss_one (ps_expr (pe_meth (pe_ix ix_listH (pv 5) (pv 6) (fun _ _ => rfl)) T.cl_Marks T.m_Marks_begin (ok_Marks_begin T) (hr.mono (by decide)) T.b_Marks_begin .nil pass0 (pa_cons (pe_tup (pa_cons (pe_ix ix_listH (pv 3) (pv 6) (fun _ _ => rfl)) (pa_cons (pe_op op_add pe_int (pe_call (ok_law_next T) (hr.mono (by decide)) rfl T.g_law_next T.F_law_next.kp T.b_law_next .nil pass0 (pa_cons (pv 2) (pa_cons pe_int pa_nil)))) (pa_cons (pe_tup (pa_cons (pv 6) (pa_cons pe_str pa_nil))) (pa_cons (pe_op op_add pe_int (pe_call (ok_law_next T) (hr.mono (by decide)) rfl T.g_law_next T.F_law_next.kp T.b_law_next .nil pass0 (pa_cons (pv 2) (pa_cons pe_int pa_nil)))) pa_nil))))) pa_nil))))))
      (pss_cons (ps_set (i := 7) sc_law.nd rfl (Or.inl rfl) (pe_lst pa_nil))
      (pss_cons (ps_for PassesOwn.never rfl (pi_range1 (by rfl) T.z_range (pa_cons (pe_callB call_lenS (by rfl) T.z_len (by decide +kernel) (pa_cons (pv 3) pa_nil)) pa_nil)) (pg_name (i := 8) sc_law.nd rfl (Or.inl rfl))
      (pss_cons (ps_set (i := 9) sc_law.nd rfl (Or.inl rfl) (pe_callTy (call_listR rfl) (by rfl) T.z_list (by decide +kernel) (pa_cons (pe_callTy call_rng1 (by rfl) T.z_range (by decide +kernel) (pa_cons (pe_callB call_lenS (by rfl) T.z_len (by decide +kernel) (pa_cons (pv 3) pa_nil)) pa_nil)) pa_nil)))
      (pss_one (ps_for PassesOwn.never rfl (pi_range1 (by rfl) T.z_range (pa_cons (pe_callB call_lenS (by rfl) T.z_len (by decide +kernel) (pa_cons (pv 3) pa_nil)) pa_nil)) (pg_name (i := 6) sc_law.nd rfl (Or.inl rfl))
      (pss_cons (ps_set (i := 10) sc_law.nd rfl (Or.inl rfl) (pe_bm PySem.F.plainAttrs_list PySem.F.slot_list_pop PySem.F.type_list_pop mt_popAt (pv 9) (pa_cons (pe_call (ok_law_next T) (hr.mono (by decide)) rfl T.g_law_next T.F_law_next.kp T.b_law_next .nil pass0 (pa_cons (pv 2) (pa_cons (pe_callB call_lenS (by rfl) T.z_len (by decide +kernel) (pa_cons (pv 9) pa_nil)) pa_nil))) pa_nil)))
      (pss_cons (ps_set (i := 11) sc_law.nd rfl (Or.inl rfl) (pe_call (ok_law_next_takes T) (hr.mono (by decide)) rfl T.g_law_next_takes T.F_law_next_takes.kp T.b_law_next_takes .nil pass0 (pa_cons (pv 5) (pa_cons (pv 3) (pa_cons (pv 10) (pa_cons (pv 4) pa_nil))))))
      (pss_cons (ps_if (pt_cmp (pc_isN (pv 11))) (pss_one (ps_ret pe_bl)) pss_nil)
      (pss_one (ps_if (PW.pt (pw_and (pt_val (pv 11)) (pw_and1 (pt_cmpR (op_notInDK (K := K) rfl (hu65 hr)) (pe_ix ix_listH (pv 3) (pv 10) (fun _ _ => rfl)) (pv 7) (by rfl))))) (pss_one (ps_expr (pe_bm PySem.F.plainAttrs_list PySem.F.slot_list_append PySem.F.type_list_append mt_append (pv 7) (pa_cons (pe_ix ix_listH (pv 3) (pv 10) (fun _ _ => rfl)) pa_nil)))) pss_nil)))))))))
      (pss_cons (ps_if (pt_val (pv 4)) (pss_one (ps_ret (pe_cmpR (op_eqDK (K := K) rfl hr.units) (pv 7) (pe_lst (pa_cons (pe_callB (call_maxD rfl (hu65 hr)) (by rfl) T.z_max (by decide +kernel) (pa_cons (pv 3) pa_nil)) pa_nil)) (nomark _)))) pss_nil)
      (pss_one (ps_ret (pe_cmpR (op_eqDK (K := K) rfl hr.units) (pv 7) (pe_lst pa_nil) (nomark _)))))))))))))), ?_⟩
    (try simp only [ne_0_1, ne_0_1b, ne_0_2, ne_0_2b, ne_0_3, ne_0_3b, ne_0_4, ne_0_4b, ne_0_5, ne_0_5b, ne_1_0, ne_1_0b, ne_1_2, ne_1_2b, ne_1_3, ne_1_3b, ne_1_4, ne_1_4b, ne_1_5, ne_1_5b, ne_2_0, ne_2_0b, ne_2_1, ne_2_1b, ne_2_3, ne_2_3b, ne_2_4, ne_2_4b, ne_2_5, ne_2_5b, ne_3_0, ne_3_0b, ne_3_1, ne_3_1b, ne_3_2, ne_3_2b, ne_4_0, ne_4_0b, ne_4_1, ne_4_1b, ne_4_2, ne_4_2b, ne_5_0, ne_5_0b, ne_5_1, ne_5_1b, ne_5_2, ne_5_2b, cxOf, Cx.nox, Cx.wish, tSeq, tAsg, tC, gName, tIfS, tTest, tOp, tUn, rU, rI0, rI, tVar, tNext, tRevT, tDNewK, tBreak, tChain, iStr, tRet, tRetN, tDrop, tLst, tTup, tCons, tNil, tCB, tB, tOr, tAnd, tNot, tIf, tCall, tFor_eq, tLc_eq, iRng1, iRng2, iList, iTup, gTup, gTupH, gUnlH, gCons, gNil, gSub, rSetL, rIxL, rIxT, rIxLH, rIxTH, rSlTS, rCatS, rTupS, rIsiH, rLenS, V.ty.injEq, tyS_non, tyS_bl, tyS_int, tyS_str, tyS_ref, tyO_l, tyO_t, tyO_d, tyO_dt, kit_ll, kit_tt, kit_bb, kit_ii, kit_ib, kit_bi, kit_nt, kit_it, kit_st, kit_bt, kit_lt, kit_dt, kit_ni, kit_si, kit_ti, kit_li, kit_di, kit_nb, kit_ns, kit_is, kit_bs, kit_ss, kit_ts, kit_ls, kit_ds, kit_dd, lenS_ref, lenO_l, lenO_t,  rAppend, tM1, rIxS, tSl, tPart, tNoPart, tBM, tBM0, tDGetS, sDPutS, tTruS, truO_l, truO_t, truS_ref, truS_non, truS_bl, truS_int, tFld, sFld, sFldAug, rAdd, tMeth, tProp, tMake, tMakeK, List.take_succ_cons, List.take_zero, List.drop_succ_cons, List.drop_zero, List.take_nil, tIsN, tNotN, tAndV, tOrV, tNotV, putF, List.lookup, List.any_cons, List.any_nil, Sum.inr.injEq, HO.ins.injEq, HO.dK.injEq, eq_self, beq_self_eq_true, beq_iff_eq, decide_true, decide_false, Bool.or_true, Bool.true_or, Bool.or_false, Bool.false_or, tYes, rEq, rNe, _root_.L2.start, wipe, List.map_cons, List.map_nil, List.length_cons, List.length_nil, List.append_nil, Nat.reduceAdd, Nat.reduceSub, List.replicate_succ, List.replicate_zero, List.cons_append, List.nil_append, List.getElem?_cons_zero, List.getElem?_cons_succ, List.set_cons_zero, List.set_cons_succ, Option.some.injEq, V.int.injEq, V.ref.injEq, V.bl.injEq, V.str.injEq, List.cons.injEq, HO.lst.injEq, HO.tup.injEq, and_assoc, and_true, true_and, exists_eq_left, exists_eq_left', exists_and_left, exists_eq, reduceCtorEq, false_and, and_false, or_false, false_or, exists_false, decide_eq_true_eq, CPow, CDivW, Int.reducePow, Int.reduceLT, Int.reduceLE, Int.reduceNeg, Int.reduceToNat, Int.reduceAbs, Nat.reducePow, Nat.reduceLT, Nat.reduceLeDiff, sizeLine_eq, Int.reduceMul, Int.reduceAdd, Int.reduceSub, Bool.not_eq_true', decide_eq_false_iff_not, scal, Bool.not_true, Bool.not_false, Bool.true_eq_false, Bool.false_eq_true, ite_false, ite_true, if_true, if_false, ite_self, forall_const, atI0, atI1, atI2, atI3, ixN20, ixN21, upd_same, upd_upd, Int.zero_add, CMul, Int.reduceSub, Nat.le_refl, Nat.zero_le, or_true, true_or, exists_const, Int.sub_zero])
    refine cutI (fun σ H' => ∃ c : Int, σ = [some (.ref a), some (.int c), none, none, none, none, none, none, none, none, none, none] ∧ H' = H) ?_ ?_
    · (try simp only [ne_0_1, ne_0_1b, ne_0_2, ne_0_2b, ne_0_3, ne_0_3b, ne_0_4, ne_0_4b, ne_0_5, ne_0_5b, ne_1_0, ne_1_0b, ne_1_2, ne_1_2b, ne_1_3, ne_1_3b, ne_1_4, ne_1_4b, ne_1_5, ne_1_5b, ne_2_0, ne_2_0b, ne_2_1, ne_2_1b, ne_2_3, ne_2_3b, ne_2_4, ne_2_4b, ne_2_5, ne_2_5b, ne_3_0, ne_3_0b, ne_3_1, ne_3_1b, ne_3_2, ne_3_2b, ne_4_0, ne_4_0b, ne_4_1, ne_4_1b, ne_4_2, ne_4_2b, ne_5_0, ne_5_0b, ne_5_1, ne_5_1b, ne_5_2, ne_5_2b, cxOf, Cx.nox, Cx.wish, tSeq, tAsg, tC, gName, tIfS, tTest, tOp, tUn, rU, rI0, rI, tVar, tNext, tRevT, tDNewK, tBreak, tChain, iStr, tRet, tRetN, tDrop, tLst, tTup, tCons, tNil, tCB, tB, tOr, tAnd, tNot, tIf, tCall, tFor_eq, tLc_eq, iRng1, iRng2, iList, iTup, gTup, gTupH, gUnlH, gCons, gNil, gSub, rSetL, rIxL, rIxT, rIxLH, rIxTH, rSlTS, rCatS, rTupS, rIsiH, rLenS, V.ty.injEq, tyS_non, tyS_bl, tyS_int, tyS_str, tyS_ref, tyO_l, tyO_t, tyO_d, tyO_dt, kit_ll, kit_tt, kit_bb, kit_ii, kit_ib, kit_bi, kit_nt, kit_it, kit_st, kit_bt, kit_lt, kit_dt, kit_ni, kit_si, kit_ti, kit_li, kit_di, kit_nb, kit_ns, kit_is, kit_bs, kit_ss, kit_ts, kit_ls, kit_ds, kit_dd, lenS_ref, lenO_l, lenO_t,  rAppend, tM1, rIxS, tSl, tPart, tNoPart, tBM, tBM0, tDGetS, sDPutS, tTruS, truO_l, truO_t, truS_ref, truS_non, truS_bl, truS_int, tFld, sFld, sFldAug, rAdd, tMeth, tProp, tMake, tMakeK, List.take_succ_cons, List.take_zero, List.drop_succ_cons, List.drop_zero, List.take_nil, tIsN, tNotN, tAndV, tOrV, tNotV, putF, List.lookup, List.any_cons, List.any_nil, Sum.inr.injEq, HO.ins.injEq, HO.dK.injEq, eq_self, beq_self_eq_true, beq_iff_eq, decide_true, decide_false, Bool.or_true, Bool.true_or, Bool.or_false, Bool.false_or, tYes, rEq, rNe, _root_.L2.start, wipe, List.map_cons, List.map_nil, List.length_cons, List.length_nil, List.append_nil, Nat.reduceAdd, Nat.reduceSub, List.replicate_succ, List.replicate_zero, List.cons_append, List.nil_append, List.getElem?_cons_zero, List.getElem?_cons_succ, List.set_cons_zero, List.set_cons_succ, Option.some.injEq, V.int.injEq, V.ref.injEq, V.bl.injEq, V.str.injEq, List.cons.injEq, HO.lst.injEq, HO.tup.injEq, and_assoc, and_true, true_and, exists_eq_left, exists_eq_left', exists_and_left, exists_eq, reduceCtorEq, false_and, and_false, or_false, false_or, exists_false, decide_eq_true_eq, CPow, CDivW, Int.reducePow, Int.reduceLT, Int.reduceLE, Int.reduceNeg, Int.reduceToNat, Int.reduceAbs, Nat.reducePow, Nat.reduceLT, Nat.reduceLeDiff, sizeLine_eq, Int.reduceMul, Int.reduceAdd, Int.reduceSub, Bool.not_eq_true', decide_eq_false_iff_not, scal, Bool.not_true, Bool.not_false, Bool.true_eq_false, Bool.false_eq_true, ite_false, ite_true, if_true, if_false, ite_self, forall_const, atI0, atI1, atI2, atI3, ixN20, ixN21, upd_same, upd_upd, Int.zero_add, CMul, Int.reduceSub, Nat.le_refl, Nat.zero_le, or_true, true_or, exists_const, Int.sub_zero])
      refine ⟨ns.length, .inl ⟨_, hS, by simp⟩, ?_⟩
      split
      · cases ns with
        | nil => rename_i h; exact absurd h (by simp)
        | cons n r => exact ⟨_, hS, _, atI0, n, rfl⟩
      · exact ⟨_, rfl⟩
    rintro σ H' ⟨c, rfl, e⟩
    rw [e]
    clear e H'
    (try simp only [ne_0_1, ne_0_1b, ne_0_2, ne_0_2b, ne_0_3, ne_0_3b, ne_0_4, ne_0_4b, ne_0_5, ne_0_5b, ne_1_0, ne_1_0b, ne_1_2, ne_1_2b, ne_1_3, ne_1_3b, ne_1_4, ne_1_4b, ne_1_5, ne_1_5b, ne_2_0, ne_2_0b, ne_2_1, ne_2_1b, ne_2_3, ne_2_3b, ne_2_4, ne_2_4b, ne_2_5, ne_2_5b, ne_3_0, ne_3_0b, ne_3_1, ne_3_1b, ne_3_2, ne_3_2b, ne_4_0, ne_4_0b, ne_4_1, ne_4_1b, ne_4_2, ne_4_2b, ne_5_0, ne_5_0b, ne_5_1, ne_5_1b, ne_5_2, ne_5_2b, cxOf, Cx.nox, Cx.wish, tSeq, tAsg, tC, gName, tIfS, tTest, tOp, tUn, rU, rI0, rI, tVar, tNext, tRevT, tDNewK, tBreak, tChain, iStr, tRet, tRetN, tDrop, tLst, tTup, tCons, tNil, tCB, tB, tOr, tAnd, tNot, tIf, tCall, tFor_eq, tLc_eq, iRng1, iRng2, iList, iTup, gTup, gTupH, gUnlH, gCons, gNil, gSub, rSetL, rIxL, rIxT, rIxLH, rIxTH, rSlTS, rCatS, rTupS, rIsiH, rLenS, V.ty.injEq, tyS_non, tyS_bl, tyS_int, tyS_str, tyS_ref, tyO_l, tyO_t, tyO_d, tyO_dt, kit_ll, kit_tt, kit_bb, kit_ii, kit_ib, kit_bi, kit_nt, kit_it, kit_st, kit_bt, kit_lt, kit_dt, kit_ni, kit_si, kit_ti, kit_li, kit_di, kit_nb, kit_ns, kit_is, kit_bs, kit_ss, kit_ts, kit_ls, kit_ds, kit_dd, lenS_ref, lenO_l, lenO_t,  rAppend, tM1, rIxS, tSl, tPart, tNoPart, tBM, tBM0, tDGetS, sDPutS, tTruS, truO_l, truO_t, truS_ref, truS_non, truS_bl, truS_int, tFld, sFld, sFldAug, rAdd, tMeth, tProp, tMake, tMakeK, List.take_succ_cons, List.take_zero, List.drop_succ_cons, List.drop_zero, List.take_nil, tIsN, tNotN, tAndV, tOrV, tNotV, putF, List.lookup, List.any_cons, List.any_nil, Sum.inr.injEq, HO.ins.injEq, HO.dK.injEq, eq_self, beq_self_eq_true, beq_iff_eq, decide_true, decide_false, Bool.or_true, Bool.true_or, Bool.or_false, Bool.false_or, tYes, rEq, rNe, _root_.L2.start, wipe, List.map_cons, List.map_nil, List.length_cons, List.length_nil, List.append_nil, Nat.reduceAdd, Nat.reduceSub, List.replicate_succ, List.replicate_zero, List.cons_append, List.nil_append, List.getElem?_cons_zero, List.getElem?_cons_succ, List.set_cons_zero, List.set_cons_succ, Option.some.injEq, V.int.injEq, V.ref.injEq, V.bl.injEq, V.str.injEq, List.cons.injEq, HO.lst.injEq, HO.tup.injEq, and_assoc, and_true, true_and, exists_eq_left, exists_eq_left', exists_and_left, exists_eq, reduceCtorEq, false_and, and_false, or_false, false_or, exists_false, decide_eq_true_eq, CPow, CDivW, Int.reducePow, Int.reduceLT, Int.reduceLE, Int.reduceNeg, Int.reduceToNat, Int.reduceAbs, Nat.reducePow, Nat.reduceLT, Nat.reduceLeDiff, sizeLine_eq, Int.reduceMul, Int.reduceAdd, Int.reduceSub, Bool.not_eq_true', decide_eq_false_iff_not, scal, Bool.not_true, Bool.not_false, Bool.true_eq_false, Bool.false_eq_true, ite_false, ite_true, if_true, if_false, ite_self, forall_const, atI0, atI1, atI2, atI3, ixN20, ixN21, upd_same, upd_upd, Int.zero_add, CMul, Int.reduceSub, Nat.le_refl, Nat.zero_le, or_true, true_or, exists_const, Int.sub_zero, sp_law_stream, sp_law_names, sp_law_next])
    intro s0 H1 hs0 st1 s1 _
    refine ⟨st1, fun N ts xs H2 hN hN2 ix nd h2 h6 g2 => ⟨g2.st, fun rg H3 r0 r1 g3 R hR => ?_⟩⟩
    have hxl := ix.len
    rw [List.length_map] at hxl
    have nNs : N ≠ s0 := St2.nn st1 hN
    have hN3 := g3.at hN2 nNs
    have ix3 := g3.ims ix
    have nNR : N ≠ R := ne_of_none hN3 hR
    have nRs : R ≠ s0 := St2.nn g3.st hR
    have hnm := names_list ts
    have hsn : ∀ b, H3 b = none → H b = none := fun b e => Same.non s1 ((g2.trans g3).none e)
    have sH3 : ∀ b o, H b = some o → H3 b = some o := fun b o e => (g2.trans g3).but b o (s1 b o e) (ne_of_none e hs0)
    (try simp only [ne_0_1, ne_0_1b, ne_0_2, ne_0_2b, ne_0_3, ne_0_3b, ne_0_4, ne_0_4b, ne_0_5, ne_0_5b, ne_1_0, ne_1_0b, ne_1_2, ne_1_2b, ne_1_3, ne_1_3b, ne_1_4, ne_1_4b, ne_1_5, ne_1_5b, ne_2_0, ne_2_0b, ne_2_1, ne_2_1b, ne_2_3, ne_2_3b, ne_2_4, ne_2_4b, ne_2_5, ne_2_5b, ne_3_0, ne_3_0b, ne_3_1, ne_3_1b, ne_3_2, ne_3_2b, ne_4_0, ne_4_0b, ne_4_1, ne_4_1b, ne_4_2, ne_4_2b, ne_5_0, ne_5_0b, ne_5_1, ne_5_1b, ne_5_2, ne_5_2b, cxOf, Cx.nox, Cx.wish, tSeq, tAsg, tC, gName, tIfS, tTest, tOp, tUn, rU, rI0, rI, tVar, tNext, tRevT, tDNewK, tBreak, tChain, iStr, tRet, tRetN, tDrop, tLst, tTup, tCons, tNil, tCB, tB, tOr, tAnd, tNot, tIf, tCall, tFor_eq, tLc_eq, iRng1, iRng2, iList, iTup, gTup, gTupH, gUnlH, gCons, gNil, gSub, rSetL, rIxL, rIxT, rIxLH, rIxTH, rSlTS, rCatS, rTupS, rIsiH, rLenS, V.ty.injEq, tyS_non, tyS_bl, tyS_int, tyS_str, tyS_ref, tyO_l, tyO_t, tyO_d, tyO_dt, kit_ll, kit_tt, kit_bb, kit_ii, kit_ib, kit_bi, kit_nt, kit_it, kit_st, kit_bt, kit_lt, kit_dt, kit_ni, kit_si, kit_ti, kit_li, kit_di, kit_nb, kit_ns, kit_is, kit_bs, kit_ss, kit_ts, kit_ls, kit_ds, kit_dd, lenS_ref, lenO_l, lenO_t,  rAppend, tM1, rIxS, tSl, tPart, tNoPart, tBM, tBM0, tDGetS, sDPutS, tTruS, truO_l, truO_t, truS_ref, truS_non, truS_bl, truS_int, tFld, sFld, sFldAug, rAdd, tMeth, tProp, tMake, tMakeK, List.take_succ_cons, List.take_zero, List.drop_succ_cons, List.drop_zero, List.take_nil, tIsN, tNotN, tAndV, tOrV, tNotV, putF, List.lookup, List.any_cons, List.any_nil, Sum.inr.injEq, HO.ins.injEq, HO.dK.injEq, eq_self, beq_self_eq_true, beq_iff_eq, decide_true, decide_false, Bool.or_true, Bool.true_or, Bool.or_false, Bool.false_or, tYes, rEq, rNe, _root_.L2.start, wipe, List.map_cons, List.map_nil, List.length_cons, List.length_nil, List.append_nil, Nat.reduceAdd, Nat.reduceSub, List.replicate_succ, List.replicate_zero, List.cons_append, List.nil_append, List.getElem?_cons_zero, List.getElem?_cons_succ, List.set_cons_zero, List.set_cons_succ, Option.some.injEq, V.int.injEq, V.ref.injEq, V.bl.injEq, V.str.injEq, List.cons.injEq, HO.lst.injEq, HO.tup.injEq, and_assoc, and_true, true_and, exists_eq_left, exists_eq_left', exists_and_left, exists_eq, reduceCtorEq, false_and, and_false, or_false, false_or, exists_false, decide_eq_true_eq, CPow, CDivW, Int.reducePow, Int.reduceLT, Int.reduceLE, Int.reduceNeg, Int.reduceToNat, Int.reduceAbs, Nat.reducePow, Nat.reduceLT, Nat.reduceLeDiff, sizeLine_eq, Int.reduceMul, Int.reduceAdd, Int.reduceSub, Bool.not_eq_true', decide_eq_false_iff_not, scal, Bool.not_true, Bool.not_false, Bool.true_eq_false, Bool.false_eq_true, ite_false, ite_true, if_true, if_false, ite_self, forall_const, atI0, atI1, atI2, atI3, ixN20, ixN21, upd_same, upd_upd, Int.zero_add, CMul, Int.reduceSub, Nat.le_refl, Nat.zero_le, or_true, true_or, exists_const, Int.sub_zero, get_new hR hN3])
    generalize decide (rg = 0) = ring
    generalize hnmf : (fun k : Nat => ts.getD k (0, 0)) = nm at hnm
    refine ⟨by omega, by omega, ?_⟩
    refine Loop.range (fun i σ H' => ∃ (ps ls : Nat → Addr) (M : Nat → Mrk) (b6 : Option V), σ = [some (.ref a), some (.int c), some (.ref s0), some (.ref N), some (.bl ring), some (.ref R), b6, none, none, none, none, none] ∧
        RowsH T.C_Marks H' i ps ls nm M (fun _ => []) ∧ H' R = some (.lst (rowsL i ps)) ∧ (∀ j, j < i → (M j).t = nm j ∧ ls j ≠ R ∧ ls j ≠ s0 ∧ ls j ≠ N ∧ H3 (ls j) = none ∧ H3 (ps j) = none) ∧ Gn s0 H3 H')
      ⟨fun _ => 0, fun _ => 0, fun _ => mrk0, none, rfl, ⟨fun k h => by omega, fun j k h => by omega, fun j k h => by omega⟩, upd_same, fun j h => by omega, (Gn.refl g3.st).new hR⟩ ?_ ?_
    · rintro i σ H4 hi ⟨ps, ls, M, b6, rfl, rw4, hR4, fa, g4⟩
      have hi' : i < ts.length := by omega
      have hN4 := g4.at hN3 nNs
      have ix4 := g4.ims ix3
      obtain ⟨x, hxa, ixx⟩ := names_at (n := ts.length) (nm := nm) hi' (by rw [hnm]; exact ix4)
      (try simp only [ne_0_1, ne_0_1b, ne_0_2, ne_0_2b, ne_0_3, ne_0_3b, ne_0_4, ne_0_4b, ne_0_5, ne_0_5b, ne_1_0, ne_1_0b, ne_1_2, ne_1_2b, ne_1_3, ne_1_3b, ne_1_4, ne_1_4b, ne_1_5, ne_1_5b, ne_2_0, ne_2_0b, ne_2_1, ne_2_1b, ne_2_3, ne_2_3b, ne_2_4, ne_2_4b, ne_2_5, ne_2_5b, ne_3_0, ne_3_0b, ne_3_1, ne_3_1b, ne_3_2, ne_3_2b, ne_4_0, ne_4_0b, ne_4_1, ne_4_1b, ne_4_2, ne_4_2b, ne_5_0, ne_5_0b, ne_5_1, ne_5_1b, ne_5_2, ne_5_2b, cxOf, Cx.nox, Cx.wish, tSeq, tAsg, tC, gName, tIfS, tTest, tOp, tUn, rU, rI0, rI, tVar, tNext, tRevT, tDNewK, tBreak, tChain, iStr, tRet, tRetN, tDrop, tLst, tTup, tCons, tNil, tCB, tB, tOr, tAnd, tNot, tIf, tCall, tFor_eq, tLc_eq, iRng1, iRng2, iList, iTup, gTup, gTupH, gUnlH, gCons, gNil, gSub, rSetL, rIxL, rIxT, rIxLH, rIxTH, rSlTS, rCatS, rTupS, rIsiH, rLenS, V.ty.injEq, tyS_non, tyS_bl, tyS_int, tyS_str, tyS_ref, tyO_l, tyO_t, tyO_d, tyO_dt, kit_ll, kit_tt, kit_bb, kit_ii, kit_ib, kit_bi, kit_nt, kit_it, kit_st, kit_bt, kit_lt, kit_dt, kit_ni, kit_si, kit_ti, kit_li, kit_di, kit_nb, kit_ns, kit_is, kit_bs, kit_ss, kit_ts, kit_ls, kit_ds, kit_dd, lenS_ref, lenO_l, lenO_t,  rAppend, tM1, rIxS, tSl, tPart, tNoPart, tBM, tBM0, tDGetS, sDPutS, tTruS, truO_l, truO_t, truS_ref, truS_non, truS_bl, truS_int, tFld, sFld, sFldAug, rAdd, tMeth, tProp, tMake, tMakeK, List.take_succ_cons, List.take_zero, List.drop_succ_cons, List.drop_zero, List.take_nil, tIsN, tNotN, tAndV, tOrV, tNotV, putF, List.lookup, List.any_cons, List.any_nil, Sum.inr.injEq, HO.ins.injEq, HO.dK.injEq, eq_self, beq_self_eq_true, beq_iff_eq, decide_true, decide_false, Bool.or_true, Bool.true_or, Bool.or_false, Bool.false_or, tYes, rEq, rNe, _root_.L2.start, wipe, List.map_cons, List.map_nil, List.length_cons, List.length_nil, List.append_nil, Nat.reduceAdd, Nat.reduceSub, List.replicate_succ, List.replicate_zero, List.cons_append, List.nil_append, List.getElem?_cons_zero, List.getElem?_cons_succ, List.set_cons_zero, List.set_cons_succ, Option.some.injEq, V.int.injEq, V.ref.injEq, V.bl.injEq, V.str.injEq, List.cons.injEq, HO.lst.injEq, HO.tup.injEq, and_assoc, and_true, true_and, exists_eq_left, exists_eq_left', exists_and_left, exists_eq, reduceCtorEq, false_and, and_false, or_false, false_or, exists_false, decide_eq_true_eq, CPow, CDivW, Int.reducePow, Int.reduceLT, Int.reduceLE, Int.reduceNeg, Int.reduceToNat, Int.reduceAbs, Nat.reducePow, Nat.reduceLT, Nat.reduceLeDiff, sizeLine_eq, Int.reduceMul, Int.reduceAdd, Int.reduceSub, Bool.not_eq_true', decide_eq_false_iff_not, scal, Bool.not_true, Bool.not_false, Bool.true_eq_false, Bool.false_eq_true, ite_false, ite_true, if_true, if_false, ite_self, forall_const, atI0, atI1, atI2, atI3, ixN20, ixN21, upd_same, upd_upd, Int.zero_add, CMul, Int.reduceSub, Nat.le_refl, Nat.zero_le, or_true, true_or, exists_const, Int.sub_zero, hR4, hN4, hxa, sp_Marks_init, sp_Marks_begin, sp_law_next])
      refine ⟨tyL hR4, fun p dx hp hdx npx => ⟨nm i, imIns0 hp hdx ixx, fun l H5 hl M5 b5 => ?_⟩⟩
      have hl4 := made_none hl
      have s45 : Same H4 H5 := fun b o e => b5.keep b o (same_made (C := T.C_Marks) hp hdx b o e) (ne_of_none e hp) (ne_of_none e hp)
      have hR5 := s45 _ _ hR4
      have nlR : l ≠ R := (ne_of_none hR4 hl4).symm
      obtain ⟨dx5, tv5, ov5, ws5, hp5, _⟩ := id M5
      have npR : p ≠ R := ne_il hp5 hR5
      refine ⟨_, hR5, by simp [rowsL]; omega, ?_⟩
      rw [rowsL_snoc]
      generalize hps : (fun j => if j = i then p else ps j) = ps'
      have hpi : ps' i = p := by rw [← hps]; simp
      have hpj : ∀ j, j < i → ps' j = ps j := fun j h => by rw [← hps]; exact if_neg (by omega)
      have g5 := g4.same s45
      have st6 : St2 (upd H5 R (.lst (rowsL (i + 1) ps'))) s0 := St2.ne g5.st nRs
      have M6 : MarksAt T.C_Marks (upd H5 R (.lst (rowsL (i + 1) ps'))) p l (nm i) none [] := M5.put hR5 nlR
      have g6 : Gn s0 H3 (upd H5 R (.lst (rowsL (i + 1) ps'))) := g5.put hR nRs
      have r6 : ∀ k, k < i → MarksAt T.C_Marks (upd H5 R (.lst (rowsL (i + 1) ps'))) (ps k) (ls k) (nm k) (some (M k)) [] := fun k hk => ((rw4.at_ k hk).same s45).put hR5 (fa k hk).2.1
      have hR6 : upd H5 R (.lst (rowsL (i + 1) ps')) R = some (.lst (rowsL (i + 1) ps')) := upd_same
      have ix6 : Im (upd H5 R (.lst (rowsL (i + 1) ps'))) (tD (nm i)) x := imPut hR5 (Same.im s45 ixx)
      have hN6 : upd H5 R (.lst (rowsL (i + 1) ps')) N = some (.lst xs) := get_ne nNR (s45 _ _ hN4)
      have nls : l ≠ s0 := St2.nn g4.st hl4
      have hl3 : H3 l = none := g4.none hl4
      have hp3 : H3 p = none := g4.none hp
      have np4 : ∀ k, k < i → p ≠ ps k := fun k hk => by
        obtain ⟨_, _, _, _, e, _⟩ := rw4.at_ k hk
        exact (ne_of_none e hp).symm
      have non6 : ∀ b, upd H5 R (.lst (rowsL (i + 1) ps')) b = none → H4 b = none := fun b e => Same.non s45 (upd_none e).2
      generalize upd H5 R (.lst (rowsL (i + 1) ps')) = H6 at st6 M6 g6 r6 hR6 ix6 hN6 non6
      obtain ⟨dx6, tv6, ov6, ws6, hp6, _⟩ := id M6
      refine ⟨_, rowsL_at (k := i) (by omega), _, rfl, _, _, (by rw [hpi]; exact hp6), rfl, _, hN6, _, hxa, st6, fun v H7 v0 v1 g7 q1 hq1 => ⟨g7.st.new hq1, fun u H8 u0 u1 g8 q2 hq2 => ?_⟩⟩
      have g68 : Gn s0 H6 H8 := (g7.new hq1).trans g8
      have hq18 : H8 q1 = some (.tup [.int i, .str (Str.ofString "a")]) := g8.at upd_same (St2.nn g7.st hq1)
      have im9 : Im (upd H8 q2 (.tup [x, .int (1 + v), .ref q1, .int (1 + u)])) (mD ⟨nm i, 1 + v, i, Str.ofString "a", 1 + u, by decide +kernel⟩) (.ref q2) :=
        im_tup upd_same (im_cons (imNew hq2 (g68.im ix6)) (im_cons im_int (im_cons (imNew hq2 (im_tup hq18 (im_cons im_int (im_cons im_str im_nil)))) (im_cons im_int im_nil))))
      have g69 : Gn s0 H6 (upd H8 q2 (.tup [x, .int (1 + v), .ref q1, .int (1 + u)])) := g68.new hq2
      generalize upd H8 q2 (.tup [x, .int (1 + v), .ref q1, .int (1 + u)]) = H9 at im9 g69
      generalize hm : (⟨nm i, 1 + v, i, Str.ofString "a", 1 + u, by decide +kernel⟩ : Mrk) = m at im9
      have M9 := M6.gn g69 nls
      refine ⟨p, by rw [hpi], l, nm i, none, [], M9, m, im9, fun l' H10 hl' M10 b10 => ?_⟩
      obtain ⟨dx9, _, _, _, hp9, _⟩ := id M9
      have hl'6 : H6 l' = none := g69.none hl'
      have hl'4 := non6 _ hl'6
      have r9 : ∀ k, k < i → MarksAt T.C_Marks H9 (ps k) (ls k) (nm k) (some (M k)) [] := fun k hk => (r6 k hk).gn g69 (fa k hk).2.2.1
      have r10 : ∀ k, k < i → MarksAt T.C_Marks H10 (ps k) (ls k) (nm k) (some (M k)) [] := fun k hk => (r9 k hk).bt1 b10 hp9 (np4 k hk).symm
      have gg : Gn s0 H3 H10 := by
        have g39 := g6.trans g69
        refine ⟨g39.st0, ?_, fun b o e n => ?_⟩
        · obtain ⟨sx, sy, hs⟩ := g39.st
          exact ⟨sx, sy, b10.keep _ _ hs (ne_il hp9 hs).symm (ne_il hp9 hs).symm⟩
        · exact b10.keep _ _ (g39.but b o e n) (ne_of_none e hp3) (ne_of_none e hp3)
      have hR10 : H10 R = some (.lst (rowsL (i + 1) ps')) := by
        have := g69.but _ _ hR6 nRs
        exact b10.keep _ _ this npR.symm npR.symm
      refine ⟨ps', (fun j => if j = i then l' else ls j), (fun j => if j = i then m else M j), ⟨fun k hk => ?_, fun j k hj hk hn => ?_, fun j k hj hk hn => ?_⟩, hR10, fun j hj => ?_, gg⟩
      · by_cases e : k = i
        · subst e
          simp only [if_true, hpi]
          exact M10
        · have hk' : k < i := by omega
          simp only [if_neg e]
          rw [hpj k hk']
          exact r10 k hk'
      · by_cases e : j = i
        · subst e
          rw [hpi, hpj k (by omega)]
          exact np4 k (by omega)
        · by_cases e2 : k = i
          · subst e2
            rw [hpi, hpj j (by omega)]
            exact (np4 j (by omega)).symm
          · rw [hpj j (by omega), hpj k (by omega)]
            exact rw4.np j k (by omega) (by omega) hn
      · have nl4 : ∀ k, k < i → ls k ≠ l' := fun k hk => by
          obtain ⟨_, _, _, _, _, _, _, e, _⟩ := rw4.at_ k hk
          exact ne_of_none e hl'4
        by_cases e : j = i
        · subst e
          simp only [if_true]
          rw [if_neg (by omega)]
          exact (nl4 k (by omega)).symm
        · by_cases e2 : k = i
          · subst e2
            simp only [if_true]
            rw [if_neg (by omega)]
            exact nl4 j (by omega)
          · simp only [if_neg e, if_neg e2]
            exact rw4.nl j k (by omega) (by omega) hn
      · by_cases e : j = i
        · subst e
          simp only [if_true]
          rw [hpi]
          exact ⟨by rw [← hm], (ne_of_none hR6 hl'6).symm, St2.nn g6.st hl'6, (ne_of_none hN6 hl'6).symm, g4.none hl'4, hp3⟩
        · simp only [if_neg e]
          rw [hpj j (by omega)]
          exact fa j (by omega)
    · rintro σ H4 ⟨ps, ls, M, b6, rfl, rw4, hR4, fa, g4⟩
      have hnn : ((xs.length : Int)).toNat = ts.length := by omega
      rw [hnn] at rw4 hR4 fa
      have hN4 := g4.at hN3 nNs
      have ix4 := g4.ims ix3
      obtain ⟨yr, d, ds, hyr, hds, hmax, htop, hbot⟩ := top_of nd h2
      have rg0 := RG.start (ring := ring) (M := M) nd h2 hnmf (fun k hk => (fa k hk).1) hyr htop hbot
      generalize hyy : (if ring = true then yr else ts.length - 1) = y at rg0
      (try simp only [ne_0_1, ne_0_1b, ne_0_2, ne_0_2b, ne_0_3, ne_0_3b, ne_0_4, ne_0_4b, ne_0_5, ne_0_5b, ne_1_0, ne_1_0b, ne_1_2, ne_1_2b, ne_1_3, ne_1_3b, ne_1_4, ne_1_4b, ne_1_5, ne_1_5b, ne_2_0, ne_2_0b, ne_2_1, ne_2_1b, ne_2_3, ne_2_3b, ne_2_4, ne_2_4b, ne_2_5, ne_2_5b, ne_3_0, ne_3_0b, ne_3_1, ne_3_1b, ne_3_2, ne_3_2b, ne_4_0, ne_4_0b, ne_4_1, ne_4_1b, ne_4_2, ne_4_2b, ne_5_0, ne_5_0b, ne_5_1, ne_5_1b, ne_5_2, ne_5_2b, cxOf, Cx.nox, Cx.wish, tSeq, tAsg, tC, gName, tIfS, tTest, tOp, tUn, rU, rI0, rI, tVar, tNext, tRevT, tDNewK, tBreak, tChain, iStr, tRet, tRetN, tDrop, tLst, tTup, tCons, tNil, tCB, tB, tOr, tAnd, tNot, tIf, tCall, tFor_eq, tLc_eq, iRng1, iRng2, iList, iTup, gTup, gTupH, gUnlH, gCons, gNil, gSub, rSetL, rIxL, rIxT, rIxLH, rIxTH, rSlTS, rCatS, rTupS, rIsiH, rLenS, V.ty.injEq, tyS_non, tyS_bl, tyS_int, tyS_str, tyS_ref, tyO_l, tyO_t, tyO_d, tyO_dt, kit_ll, kit_tt, kit_bb, kit_ii, kit_ib, kit_bi, kit_nt, kit_it, kit_st, kit_bt, kit_lt, kit_dt, kit_ni, kit_si, kit_ti, kit_li, kit_di, kit_nb, kit_ns, kit_is, kit_bs, kit_ss, kit_ts, kit_ls, kit_ds, kit_dd, lenS_ref, lenO_l, lenO_t,  rAppend, tM1, rIxS, tSl, tPart, tNoPart, tBM, tBM0, tDGetS, sDPutS, tTruS, truO_l, truO_t, truS_ref, truS_non, truS_bl, truS_int, tFld, sFld, sFldAug, rAdd, tMeth, tProp, tMake, tMakeK, List.take_succ_cons, List.take_zero, List.drop_succ_cons, List.drop_zero, List.take_nil, tIsN, tNotN, tAndV, tOrV, tNotV, putF, List.lookup, List.any_cons, List.any_nil, Sum.inr.injEq, HO.ins.injEq, HO.dK.injEq, eq_self, beq_self_eq_true, beq_iff_eq, decide_true, decide_false, Bool.or_true, Bool.true_or, Bool.or_false, Bool.false_or, tYes, rEq, rNe, _root_.L2.start, wipe, List.map_cons, List.map_nil, List.length_cons, List.length_nil, List.append_nil, Nat.reduceAdd, Nat.reduceSub, List.replicate_succ, List.replicate_zero, List.cons_append, List.nil_append, List.getElem?_cons_zero, List.getElem?_cons_succ, List.set_cons_zero, List.set_cons_succ, Option.some.injEq, V.int.injEq, V.ref.injEq, V.bl.injEq, V.str.injEq, List.cons.injEq, HO.lst.injEq, HO.tup.injEq, and_assoc, and_true, true_and, exists_eq_left, exists_eq_left', exists_and_left, exists_eq, reduceCtorEq, false_and, and_false, or_false, false_or, exists_false, decide_eq_true_eq, CPow, CDivW, Int.reducePow, Int.reduceLT, Int.reduceLE, Int.reduceNeg, Int.reduceToNat, Int.reduceAbs, Nat.reducePow, Nat.reduceLT, Nat.reduceLeDiff, sizeLine_eq, Int.reduceMul, Int.reduceAdd, Int.reduceSub, Bool.not_eq_true', decide_eq_false_iff_not, scal, Bool.not_true, Bool.not_false, Bool.true_eq_false, Bool.false_eq_true, ite_false, ite_true, if_true, if_false, ite_self, forall_const, atI0, atI1, atI2, atI3, ixN20, ixN21, upd_same, upd_upd, Int.zero_add, CMul, Int.reduceSub, Nat.le_refl, Nat.zero_le, or_true, true_or, exists_const, Int.sub_zero])
      intro hm hhm
      have nhR : R ≠ hm := ne_of_none hR4 hhm
      have nhN : N ≠ hm := ne_of_none hN4 hhm
      have nhs : hm ≠ s0 := St2.nn g4.st hhm
      have far : ∀ k, k < ts.length → ls k ≠ R ∧ ls k ≠ s0 ∧ ls k ≠ N ∧ ls k ≠ hm := fun k hk => by
        obtain ⟨_, _, _, _, _, _, _, e, _⟩ := rw4.at_ k hk
        obtain ⟨_, h1, h2, h3, _⟩ := fa k hk
        exact ⟨h1, h2, h3, ne_of_none e hhm⟩
      have nRN : R ≠ N := nNR.symm
      (try simp only [ne_0_1, ne_0_1b, ne_0_2, ne_0_2b, ne_0_3, ne_0_3b, ne_0_4, ne_0_4b, ne_0_5, ne_0_5b, ne_1_0, ne_1_0b, ne_1_2, ne_1_2b, ne_1_3, ne_1_3b, ne_1_4, ne_1_4b, ne_1_5, ne_1_5b, ne_2_0, ne_2_0b, ne_2_1, ne_2_1b, ne_2_3, ne_2_3b, ne_2_4, ne_2_4b, ne_2_5, ne_2_5b, ne_3_0, ne_3_0b, ne_3_1, ne_3_1b, ne_3_2, ne_3_2b, ne_4_0, ne_4_0b, ne_4_1, ne_4_1b, ne_4_2, ne_4_2b, ne_5_0, ne_5_0b, ne_5_1, ne_5_1b, ne_5_2, ne_5_2b, cxOf, Cx.nox, Cx.wish, tSeq, tAsg, tC, gName, tIfS, tTest, tOp, tUn, rU, rI0, rI, tVar, tNext, tRevT, tDNewK, tBreak, tChain, iStr, tRet, tRetN, tDrop, tLst, tTup, tCons, tNil, tCB, tB, tOr, tAnd, tNot, tIf, tCall, tFor_eq, tLc_eq, iRng1, iRng2, iList, iTup, gTup, gTupH, gUnlH, gCons, gNil, gSub, rSetL, rIxL, rIxT, rIxLH, rIxTH, rSlTS, rCatS, rTupS, rIsiH, rLenS, V.ty.injEq, tyS_non, tyS_bl, tyS_int, tyS_str, tyS_ref, tyO_l, tyO_t, tyO_d, tyO_dt, kit_ll, kit_tt, kit_bb, kit_ii, kit_ib, kit_bi, kit_nt, kit_it, kit_st, kit_bt, kit_lt, kit_dt, kit_ni, kit_si, kit_ti, kit_li, kit_di, kit_nb, kit_ns, kit_is, kit_bs, kit_ss, kit_ts, kit_ls, kit_ds, kit_dd, lenS_ref, lenO_l, lenO_t,  rAppend, tM1, rIxS, tSl, tPart, tNoPart, tBM, tBM0, tDGetS, sDPutS, tTruS, truO_l, truO_t, truS_ref, truS_non, truS_bl, truS_int, tFld, sFld, sFldAug, rAdd, tMeth, tProp, tMake, tMakeK, List.take_succ_cons, List.take_zero, List.drop_succ_cons, List.drop_zero, List.take_nil, tIsN, tNotN, tAndV, tOrV, tNotV, putF, List.lookup, List.any_cons, List.any_nil, Sum.inr.injEq, HO.ins.injEq, HO.dK.injEq, eq_self, beq_self_eq_true, beq_iff_eq, decide_true, decide_false, Bool.or_true, Bool.true_or, Bool.or_false, Bool.false_or, tYes, rEq, rNe, _root_.L2.start, wipe, List.map_cons, List.map_nil, List.length_cons, List.length_nil, List.append_nil, Nat.reduceAdd, Nat.reduceSub, List.replicate_succ, List.replicate_zero, List.cons_append, List.nil_append, List.getElem?_cons_zero, List.getElem?_cons_succ, List.set_cons_zero, List.set_cons_succ, Option.some.injEq, V.int.injEq, V.ref.injEq, V.bl.injEq, V.str.injEq, List.cons.injEq, HO.lst.injEq, HO.tup.injEq, and_assoc, and_true, true_and, exists_eq_left, exists_eq_left', exists_and_left, exists_eq, reduceCtorEq, false_and, and_false, or_false, false_or, exists_false, decide_eq_true_eq, CPow, CDivW, Int.reducePow, Int.reduceLT, Int.reduceLE, Int.reduceNeg, Int.reduceToNat, Int.reduceAbs, Nat.reducePow, Nat.reduceLT, Nat.reduceLeDiff, sizeLine_eq, Int.reduceMul, Int.reduceAdd, Int.reduceSub, Bool.not_eq_true', decide_eq_false_iff_not, scal, Bool.not_true, Bool.not_false, Bool.true_eq_false, Bool.false_eq_true, ite_false, ite_true, if_true, if_false, ite_self, forall_const, atI0, atI1, atI2, atI3, ixN20, ixN21, upd_same, upd_upd, Int.zero_add, CMul, Int.reduceSub, Nat.le_refl, Nat.zero_le, or_true, true_or, exists_const, Int.sub_zero, get_new hhm hN4])
      refine ⟨by omega, by omega, ?_⟩
      rw [hnn]
      have s5 := same_new hhm (o := .lst [])
      refine Loop.range (fun t σ H' => ∃ (kp : Nat → List Mrk) (home : List (Int × Int)) (hs : List V) (b6 b8 b9 b10 b11 : Option V), σ = [some (.ref a), some (.int c), some (.ref s0), some (.ref N), some (.bl ring), some (.ref R), b6, some (.ref hm), b8, b9, b10, b11] ∧
          RowsH T.C_Marks H' ts.length ps ls nm M kp ∧ H' R = some (.lst (rowsL ts.length ps)) ∧ H' hm = some (.lst hs) ∧ ImAll H' (home.map tD) hs ∧ St2 H' s0 ∧ H' N = some (.lst xs) ∧ ImAll H' (ts.map tD) xs ∧
          ((t < ts.length ∧ RG ts.length y ring nm M kp t (List.range ts.length) home) ∨ (t = ts.length ∧ RG ts.length y ring nm M kp (ts.length - 1) [] home)))
        ⟨_, [], [], _, none, none, none, none, rfl, rw4.same s5, s5 _ _ hR4, upd_same, im_nil, g4.st.same s5, s5 _ _ hN4, Same.ims s5 ix4, .inl ⟨by omega, rg0⟩⟩ ?_ ?_
      · clear rg0 rw4 hR4 hN4 ix4 s5 hhm g4 fa
        rintro t σ H5 ht ⟨kp, home, hs, b6, b8, b9, b10, b11, rfl, rw5, hR5, hh5, ih5, st5, hN5, ix5, hc⟩
        have rg5 : RG ts.length y ring nm M kp t (List.range ts.length) home := by
          rcases hc with h | h
          · exact h.2
          · omega
        clear hc
        (try simp only [ne_0_1, ne_0_1b, ne_0_2, ne_0_2b, ne_0_3, ne_0_3b, ne_0_4, ne_0_4b, ne_0_5, ne_0_5b, ne_1_0, ne_1_0b, ne_1_2, ne_1_2b, ne_1_3, ne_1_3b, ne_1_4, ne_1_4b, ne_1_5, ne_1_5b, ne_2_0, ne_2_0b, ne_2_1, ne_2_1b, ne_2_3, ne_2_3b, ne_2_4, ne_2_4b, ne_2_5, ne_2_5b, ne_3_0, ne_3_0b, ne_3_1, ne_3_1b, ne_3_2, ne_3_2b, ne_4_0, ne_4_0b, ne_4_1, ne_4_1b, ne_4_2, ne_4_2b, ne_5_0, ne_5_0b, ne_5_1, ne_5_1b, ne_5_2, ne_5_2b, cxOf, Cx.nox, Cx.wish, tSeq, tAsg, tC, gName, tIfS, tTest, tOp, tUn, rU, rI0, rI, tVar, tNext, tRevT, tDNewK, tBreak, tChain, iStr, tRet, tRetN, tDrop, tLst, tTup, tCons, tNil, tCB, tB, tOr, tAnd, tNot, tIf, tCall, tFor_eq, tLc_eq, iRng1, iRng2, iList, iTup, gTup, gTupH, gUnlH, gCons, gNil, gSub, rSetL, rIxL, rIxT, rIxLH, rIxTH, rSlTS, rCatS, rTupS, rIsiH, rLenS, V.ty.injEq, tyS_non, tyS_bl, tyS_int, tyS_str, tyS_ref, tyO_l, tyO_t, tyO_d, tyO_dt, kit_ll, kit_tt, kit_bb, kit_ii, kit_ib, kit_bi, kit_nt, kit_it, kit_st, kit_bt, kit_lt, kit_dt, kit_ni, kit_si, kit_ti, kit_li, kit_di, kit_nb, kit_ns, kit_is, kit_bs, kit_ss, kit_ts, kit_ls, kit_ds, kit_dd, lenS_ref, lenO_l, lenO_t,  rAppend, tM1, rIxS, tSl, tPart, tNoPart, tBM, tBM0, tDGetS, sDPutS, tTruS, truO_l, truO_t, truS_ref, truS_non, truS_bl, truS_int, tFld, sFld, sFldAug, rAdd, tMeth, tProp, tMake, tMakeK, List.take_succ_cons, List.take_zero, List.drop_succ_cons, List.drop_zero, List.take_nil, tIsN, tNotN, tAndV, tOrV, tNotV, putF, List.lookup, List.any_cons, List.any_nil, Sum.inr.injEq, HO.ins.injEq, HO.dK.injEq, eq_self, beq_self_eq_true, beq_iff_eq, decide_true, decide_false, Bool.or_true, Bool.true_or, Bool.or_false, Bool.false_or, tYes, rEq, rNe, _root_.L2.start, wipe, List.map_cons, List.map_nil, List.length_cons, List.length_nil, List.append_nil, Nat.reduceAdd, Nat.reduceSub, List.replicate_succ, List.replicate_zero, List.cons_append, List.nil_append, List.getElem?_cons_zero, List.getElem?_cons_succ, List.set_cons_zero, List.set_cons_succ, Option.some.injEq, V.int.injEq, V.ref.injEq, V.bl.injEq, V.str.injEq, List.cons.injEq, HO.lst.injEq, HO.tup.injEq, and_assoc, and_true, true_and, exists_eq_left, exists_eq_left', exists_and_left, exists_eq, reduceCtorEq, false_and, and_false, or_false, false_or, exists_false, decide_eq_true_eq, CPow, CDivW, Int.reducePow, Int.reduceLT, Int.reduceLE, Int.reduceNeg, Int.reduceToNat, Int.reduceAbs, Nat.reducePow, Nat.reduceLT, Nat.reduceLeDiff, sizeLine_eq, Int.reduceMul, Int.reduceAdd, Int.reduceSub, Bool.not_eq_true', decide_eq_false_iff_not, scal, Bool.not_true, Bool.not_false, Bool.true_eq_false, Bool.false_eq_true, ite_false, ite_true, if_true, if_false, ite_self, forall_const, atI0, atI1, atI2, atI3, ixN20, ixN21, upd_same, upd_upd, Int.zero_add, CMul, Int.reduceSub, Nat.le_refl, Nat.zero_le, or_true, true_or, exists_const, Int.sub_zero, hN5, rRng1])
        intro q hq
        refine ⟨q, xs.length, rfl, upd_same, by omega, fun O hO => ?_⟩
        rw [show (List.range xs.length) = List.range ts.length by rw [hxl]]
        have s56 := (same_new hq (o := .rng 0 xs.length)).trans (same_new hO (o := .lst ((List.range ts.length).map fun j : Nat => V.int j)))
        have hO0 : H5 O = none := (upd_none hO).2
        have nOR : R ≠ O := ne_of_none hR5 hO0
        have nON : N ≠ O := ne_of_none hN5 hO0
        have nOh : hm ≠ O := ne_of_none hh5 hO0
        have nOs : O ≠ s0 := St2.nn st5 hO0
        have nOl : ∀ k, k < ts.length → ls k ≠ O := fun k hk => by
          obtain ⟨_, _, _, _, _, _, _, e, _⟩ := rw5.at_ k hk
          exact ne_of_none e hO0
        have hO6 : upd (upd H5 q (.rng 0 xs.length)) O (.lst ((List.range ts.length).map fun j : Nat => V.int j)) O = some (.lst ((List.range ts.length).map fun j : Nat => V.int j)) := upd_same
        generalize upd (upd H5 q (.rng 0 xs.length)) O (.lst ((List.range ts.length).map fun j : Nat => V.int j)) = H6 at s56 hO6
        (try simp only [ne_0_1, ne_0_1b, ne_0_2, ne_0_2b, ne_0_3, ne_0_3b, ne_0_4, ne_0_4b, ne_0_5, ne_0_5b, ne_1_0, ne_1_0b, ne_1_2, ne_1_2b, ne_1_3, ne_1_3b, ne_1_4, ne_1_4b, ne_1_5, ne_1_5b, ne_2_0, ne_2_0b, ne_2_1, ne_2_1b, ne_2_3, ne_2_3b, ne_2_4, ne_2_4b, ne_2_5, ne_2_5b, ne_3_0, ne_3_0b, ne_3_1, ne_3_1b, ne_3_2, ne_3_2b, ne_4_0, ne_4_0b, ne_4_1, ne_4_1b, ne_4_2, ne_4_2b, ne_5_0, ne_5_0b, ne_5_1, ne_5_1b, ne_5_2, ne_5_2b, cxOf, Cx.nox, Cx.wish, tSeq, tAsg, tC, gName, tIfS, tTest, tOp, tUn, rU, rI0, rI, tVar, tNext, tRevT, tDNewK, tBreak, tChain, iStr, tRet, tRetN, tDrop, tLst, tTup, tCons, tNil, tCB, tB, tOr, tAnd, tNot, tIf, tCall, tFor_eq, tLc_eq, iRng1, iRng2, iList, iTup, gTup, gTupH, gUnlH, gCons, gNil, gSub, rSetL, rIxL, rIxT, rIxLH, rIxTH, rSlTS, rCatS, rTupS, rIsiH, rLenS, V.ty.injEq, tyS_non, tyS_bl, tyS_int, tyS_str, tyS_ref, tyO_l, tyO_t, tyO_d, tyO_dt, kit_ll, kit_tt, kit_bb, kit_ii, kit_ib, kit_bi, kit_nt, kit_it, kit_st, kit_bt, kit_lt, kit_dt, kit_ni, kit_si, kit_ti, kit_li, kit_di, kit_nb, kit_ns, kit_is, kit_bs, kit_ss, kit_ts, kit_ls, kit_ds, kit_dd, lenS_ref, lenO_l, lenO_t,  rAppend, tM1, rIxS, tSl, tPart, tNoPart, tBM, tBM0, tDGetS, sDPutS, tTruS, truO_l, truO_t, truS_ref, truS_non, truS_bl, truS_int, tFld, sFld, sFldAug, rAdd, tMeth, tProp, tMake, tMakeK, List.take_succ_cons, List.take_zero, List.drop_succ_cons, List.drop_zero, List.take_nil, tIsN, tNotN, tAndV, tOrV, tNotV, putF, List.lookup, List.any_cons, List.any_nil, Sum.inr.injEq, HO.ins.injEq, HO.dK.injEq, eq_self, beq_self_eq_true, beq_iff_eq, decide_true, decide_false, Bool.or_true, Bool.true_or, Bool.or_false, Bool.false_or, tYes, rEq, rNe, _root_.L2.start, wipe, List.map_cons, List.map_nil, List.length_cons, List.length_nil, List.append_nil, Nat.reduceAdd, Nat.reduceSub, List.replicate_succ, List.replicate_zero, List.cons_append, List.nil_append, List.getElem?_cons_zero, List.getElem?_cons_succ, List.set_cons_zero, List.set_cons_succ, Option.some.injEq, V.int.injEq, V.ref.injEq, V.bl.injEq, V.str.injEq, List.cons.injEq, HO.lst.injEq, HO.tup.injEq, and_assoc, and_true, true_and, exists_eq_left, exists_eq_left', exists_and_left, exists_eq, reduceCtorEq, false_and, and_false, or_false, false_or, exists_false, decide_eq_true_eq, CPow, CDivW, Int.reducePow, Int.reduceLT, Int.reduceLE, Int.reduceNeg, Int.reduceToNat, Int.reduceAbs, Nat.reducePow, Nat.reduceLT, Nat.reduceLeDiff, sizeLine_eq, Int.reduceMul, Int.reduceAdd, Int.reduceSub, Bool.not_eq_true', decide_eq_false_iff_not, scal, Bool.not_true, Bool.not_false, Bool.true_eq_false, Bool.false_eq_true, ite_false, ite_true, if_true, if_false, ite_self, forall_const, atI0, atI1, atI2, atI3, ixN20, ixN21, upd_same, upd_upd, Int.zero_add, CMul, Int.reduceSub, Nat.le_refl, Nat.zero_le, or_true, true_or, exists_const, Int.sub_zero, s56 _ _ hN5])
        refine ⟨by omega, by omega, ?_⟩
        rw [hnn]
        refine Loop.range (fun j σ H' => ∃ (kp : Nat → List Mrk) (home : List (Int × Int)) (hs : List V) (rem : List Nat) (b6 b10 b11 : Option V), σ = [some (.ref a), some (.int c), some (.ref s0), some (.ref N), some (.bl ring), some (.ref R), b6, some (.ref hm), some (.int t), some (.ref O), b10, b11] ∧
            RowsH T.C_Marks H' ts.length ps ls nm M kp ∧ H' R = some (.lst (rowsL ts.length ps)) ∧ H' hm = some (.lst hs) ∧ ImAll H' (home.map tD) hs ∧ St2 H' s0 ∧ H' N = some (.lst xs) ∧ ImAll H' (ts.map tD) xs ∧
            H' O = some (.lst (rem.map fun j : Nat => V.int j)) ∧ rem.Nodup ∧ rem.length + j = ts.length ∧ (∀ x ∈ rem, x < ts.length) ∧ RG ts.length y ring nm M kp t rem home)
          ⟨kp, home, hs, List.range ts.length, b6, b10, b11, rfl, rw5.same s56, s56 _ _ hR5, s56 _ _ hh5, Same.ims s56 ih5, st5.same s56, s56 _ _ hN5, Same.ims s56 ix5, hO6, List.nodup_range, by simp, fun x hx => List.mem_range.mp hx, rg5⟩ ?_ ?_
        · clear rg5 rw5 hR5 hh5 ih5 st5 hN5 ix5 s56 hO6 hq hO hO0
          rintro j σ H7 hj ⟨kp, home, hs, rem, b6, b10, b11, rfl, rw7, hR7, hh7, ih7, st7, hN7, ix7, hO7, ndr, hrl, hrn, rg7⟩
          have hfl : (rem.map fun j : Nat => V.int j).length = rem.length := List.length_map _
          (try simp only [ne_0_1, ne_0_1b, ne_0_2, ne_0_2b, ne_0_3, ne_0_3b, ne_0_4, ne_0_4b, ne_0_5, ne_0_5b, ne_1_0, ne_1_0b, ne_1_2, ne_1_2b, ne_1_3, ne_1_3b, ne_1_4, ne_1_4b, ne_1_5, ne_1_5b, ne_2_0, ne_2_0b, ne_2_1, ne_2_1b, ne_2_3, ne_2_3b, ne_2_4, ne_2_4b, ne_2_5, ne_2_5b, ne_3_0, ne_3_0b, ne_3_1, ne_3_1b, ne_3_2, ne_3_2b, ne_4_0, ne_4_0b, ne_4_1, ne_4_1b, ne_4_2, ne_4_2b, ne_5_0, ne_5_0b, ne_5_1, ne_5_1b, ne_5_2, ne_5_2b, cxOf, Cx.nox, Cx.wish, tSeq, tAsg, tC, gName, tIfS, tTest, tOp, tUn, rU, rI0, rI, tVar, tNext, tRevT, tDNewK, tBreak, tChain, iStr, tRet, tRetN, tDrop, tLst, tTup, tCons, tNil, tCB, tB, tOr, tAnd, tNot, tIf, tCall, tFor_eq, tLc_eq, iRng1, iRng2, iList, iTup, gTup, gTupH, gUnlH, gCons, gNil, gSub, rSetL, rIxL, rIxT, rIxLH, rIxTH, rSlTS, rCatS, rTupS, rIsiH, rLenS, V.ty.injEq, tyS_non, tyS_bl, tyS_int, tyS_str, tyS_ref, tyO_l, tyO_t, tyO_d, tyO_dt, kit_ll, kit_tt, kit_bb, kit_ii, kit_ib, kit_bi, kit_nt, kit_it, kit_st, kit_bt, kit_lt, kit_dt, kit_ni, kit_si, kit_ti, kit_li, kit_di, kit_nb, kit_ns, kit_is, kit_bs, kit_ss, kit_ts, kit_ls, kit_ds, kit_dd, lenS_ref, lenO_l, lenO_t,  rAppend, tM1, rIxS, tSl, tPart, tNoPart, tBM, tBM0, tDGetS, sDPutS, tTruS, truO_l, truO_t, truS_ref, truS_non, truS_bl, truS_int, tFld, sFld, sFldAug, rAdd, tMeth, tProp, tMake, tMakeK, List.take_succ_cons, List.take_zero, List.drop_succ_cons, List.drop_zero, List.take_nil, tIsN, tNotN, tAndV, tOrV, tNotV, putF, List.lookup, List.any_cons, List.any_nil, Sum.inr.injEq, HO.ins.injEq, HO.dK.injEq, eq_self, beq_self_eq_true, beq_iff_eq, decide_true, decide_false, Bool.or_true, Bool.true_or, Bool.or_false, Bool.false_or, tYes, rEq, rNe, _root_.L2.start, wipe, List.map_cons, List.map_nil, List.length_cons, List.length_nil, List.append_nil, Nat.reduceAdd, Nat.reduceSub, List.replicate_succ, List.replicate_zero, List.cons_append, List.nil_append, List.getElem?_cons_zero, List.getElem?_cons_succ, List.set_cons_zero, List.set_cons_succ, Option.some.injEq, V.int.injEq, V.ref.injEq, V.bl.injEq, V.str.injEq, List.cons.injEq, HO.lst.injEq, HO.tup.injEq, and_assoc, and_true, true_and, exists_eq_left, exists_eq_left', exists_and_left, exists_eq, reduceCtorEq, false_and, and_false, or_false, false_or, exists_false, decide_eq_true_eq, CPow, CDivW, Int.reducePow, Int.reduceLT, Int.reduceLE, Int.reduceNeg, Int.reduceToNat, Int.reduceAbs, Nat.reducePow, Nat.reduceLT, Nat.reduceLeDiff, sizeLine_eq, Int.reduceMul, Int.reduceAdd, Int.reduceSub, Bool.not_eq_true', decide_eq_false_iff_not, scal, Bool.not_true, Bool.not_false, Bool.true_eq_false, Bool.false_eq_true, ite_false, ite_true, if_true, if_false, ite_self, forall_const, atI0, atI1, atI2, atI3, ixN20, ixN21, upd_same, upd_upd, Int.zero_add, CMul, Int.reduceSub, Nat.le_refl, Nat.zero_le, or_true, true_or, exists_const, Int.sub_zero, hO7, sp_law_next])
          refine ⟨tyL hO7, st7, by omega, by omega, fun v H8 v0 v1 g8 => ?_⟩
          have hO8 := g8.at hO7 nOs
          have hR8 := g8.at hR7 nRs
          have hh8 := g8.at hh7 nhs
          have hN8 := g8.at hN7 nNs
          have rw8 : RowsH T.C_Marks H8 ts.length ps ls nm M kp := { rw7 with at_ := fun k hk => (rw7.at_ k hk).gn g8 (far k hk).2.1 }
          obtain ⟨vn, rfl⟩ : ∃ k : Nat, v = k := ⟨v.toNat, by omega⟩
          have hvn : vn < rem.length := by omega
          have hpm : rem[vn] ∈ rem := List.getElem_mem hvn
          have hpl := hrn _ hpm
          have hef := erase_filter vn hvn ndr
          have hel : (rem.eraseIdx vn).length + 1 = rem.length := by rw [List.length_eraseIdx]; split <;> omega
          rw [hef] at hel
          unfold rPopAt
          refine ⟨O, _, _, vn, V.int rem[vn], rfl, rfl, hO8, by omega, by omega, (ixN_seq (ixN_ok (by omega) (by omega))).1, by simp [hvn], ?_⟩
          rw [map_erase, hef]
          generalize rem[vn] = pl at hpm hpl hel
          have ndr' : (rem.filter fun j => decide (j ≠ pl)).Nodup := List.Pairwise.filter _ ndr
          have hrn' : ∀ x ∈ rem.filter (fun j => decide (j ≠ pl)), x < ts.length := fun x hx => hrn x (List.mem_filter.mp hx).1
          have rw9 : RowsH T.C_Marks (upd H8 O (.lst ((rem.filter fun j => decide (j ≠ pl)).map fun j : Nat => V.int j))) ts.length ps ls nm M kp := { rw8 with at_ := fun k hk => (rw8.at_ k hk).put hO8 (nOl k hk) }
          have hR9 : upd H8 O (.lst ((rem.filter fun j => decide (j ≠ pl)).map fun j : Nat => V.int j)) R = some (.lst (rowsL ts.length ps)) := get_ne nOR hR8
          have hN9 : upd H8 O (.lst ((rem.filter fun j => decide (j ≠ pl)).map fun j : Nat => V.int j)) N = some (.lst xs) := get_ne nON hN8
          have hh9 : upd H8 O (.lst ((rem.filter fun j => decide (j ≠ pl)).map fun j : Nat => V.int j)) hm = some (.lst hs) := get_ne nOh hh8
          have ix9 : ImAll (upd H8 O (.lst ((rem.filter fun j => decide (j ≠ pl)).map fun j : Nat => V.int j))) (ts.map tD) xs := imsPut hO8 (g8.ims ix7)
          have ih9 : ImAll (upd H8 O (.lst ((rem.filter fun j => decide (j ≠ pl)).map fun j : Nat => V.int j))) (home.map tD) hs := imsPut hO8 (g8.ims ih7)
          have st9 : St2 (upd H8 O (.lst ((rem.filter fun j => decide (j ≠ pl)).map fun j : Nat => V.int j))) s0 := St2.ne g8.st nOs
          have hO9 : upd H8 O (.lst ((rem.filter fun j => decide (j ≠ pl)).map fun j : Nat => V.int j)) O = some (.lst ((rem.filter fun j => decide (j ≠ pl)).map fun j : Nat => V.int j)) := upd_same
          generalize upd H8 O (.lst ((rem.filter fun j => decide (j ≠ pl)).map fun j : Nat => V.int j)) = H9 at rw9 hR9 hN9 hh9 ix9 ih9 st9 hO9
          clear hO8 hR8 hh8 hN8 rw8 hO7 hR7 hh7 hN7 rw7 ih7 ix7 st7 g8
          unfold sp_law_next_takes
          have ixn : ImAll H9 (namesD ts.length nm) xs := by rw [hnm]; exact ix9
          have hlen2 : (rem.filter fun j => decide (j ≠ pl)).length + (j + 1) = ts.length := by omega
          refine ⟨R, N, ts.length, pl, ring, ps, ls, nm, M, kp, xs, rfl, hpl, h6, rw9, hR9, hN9, ixn, rg7.own, fun j hj m hm => by obtain ⟨_, _, _, _, z⟩ := rg7.kpm j hj m hm; exact z, rg7.kpl, fun rr hpn => ?_, fun hno H10 M10 b10 => ?_⟩
          · (try simp only [ne_0_1, ne_0_1b, ne_0_2, ne_0_2b, ne_0_3, ne_0_3b, ne_0_4, ne_0_4b, ne_0_5, ne_0_5b, ne_1_0, ne_1_0b, ne_1_2, ne_1_2b, ne_1_3, ne_1_3b, ne_1_4, ne_1_4b, ne_1_5, ne_1_5b, ne_2_0, ne_2_0b, ne_2_1, ne_2_1b, ne_2_3, ne_2_3b, ne_2_4, ne_2_4b, ne_2_5, ne_2_5b, ne_3_0, ne_3_0b, ne_3_1, ne_3_1b, ne_3_2, ne_3_2b, ne_4_0, ne_4_0b, ne_4_1, ne_4_1b, ne_4_2, ne_4_2b, ne_5_0, ne_5_0b, ne_5_1, ne_5_1b, ne_5_2, ne_5_2b, cxOf, Cx.nox, Cx.wish, tSeq, tAsg, tC, gName, tIfS, tTest, tOp, tUn, rU, rI0, rI, tVar, tNext, tRevT, tDNewK, tBreak, tChain, iStr, tRet, tRetN, tDrop, tLst, tTup, tCons, tNil, tCB, tB, tOr, tAnd, tNot, tIf, tCall, tFor_eq, tLc_eq, iRng1, iRng2, iList, iTup, gTup, gTupH, gUnlH, gCons, gNil, gSub, rSetL, rIxL, rIxT, rIxLH, rIxTH, rSlTS, rCatS, rTupS, rIsiH, rLenS, V.ty.injEq, tyS_non, tyS_bl, tyS_int, tyS_str, tyS_ref, tyO_l, tyO_t, tyO_d, tyO_dt, kit_ll, kit_tt, kit_bb, kit_ii, kit_ib, kit_bi, kit_nt, kit_it, kit_st, kit_bt, kit_lt, kit_dt, kit_ni, kit_si, kit_ti, kit_li, kit_di, kit_nb, kit_ns, kit_is, kit_bs, kit_ss, kit_ts, kit_ls, kit_ds, kit_dd, lenS_ref, lenO_l, lenO_t,  rAppend, tM1, rIxS, tSl, tPart, tNoPart, tBM, tBM0, tDGetS, sDPutS, tTruS, truO_l, truO_t, truS_ref, truS_non, truS_bl, truS_int, tFld, sFld, sFldAug, rAdd, tMeth, tProp, tMake, tMakeK, List.take_succ_cons, List.take_zero, List.drop_succ_cons, List.drop_zero, List.take_nil, tIsN, tNotN, tAndV, tOrV, tNotV, putF, List.lookup, List.any_cons, List.any_nil, Sum.inr.injEq, HO.ins.injEq, HO.dK.injEq, eq_self, beq_self_eq_true, beq_iff_eq, decide_true, decide_false, Bool.or_true, Bool.true_or, Bool.or_false, Bool.false_or, tYes, rEq, rNe, _root_.L2.start, wipe, List.map_cons, List.map_nil, List.length_cons, List.length_nil, List.append_nil, Nat.reduceAdd, Nat.reduceSub, List.replicate_succ, List.replicate_zero, List.cons_append, List.nil_append, List.getElem?_cons_zero, List.getElem?_cons_succ, List.set_cons_zero, List.set_cons_succ, Option.some.injEq, V.int.injEq, V.ref.injEq, V.bl.injEq, V.str.injEq, List.cons.injEq, HO.lst.injEq, HO.tup.injEq, and_assoc, and_true, true_and, exists_eq_left, exists_eq_left', exists_and_left, exists_eq, reduceCtorEq, false_and, and_false, or_false, false_or, exists_false, decide_eq_true_eq, CPow, CDivW, Int.reducePow, Int.reduceLT, Int.reduceLE, Int.reduceNeg, Int.reduceToNat, Int.reduceAbs, Nat.reducePow, Nat.reduceLT, Nat.reduceLeDiff, sizeLine_eq, Int.reduceMul, Int.reduceAdd, Int.reduceSub, Bool.not_eq_true', decide_eq_false_iff_not, scal, Bool.not_true, Bool.not_false, Bool.true_eq_false, Bool.false_eq_true, ite_false, ite_true, if_true, if_false, ite_self, forall_const, atI0, atI1, atI2, atI3, ixN20, ixN21, upd_same, upd_upd, Int.zero_add, CMul, Int.reduceSub, Nat.le_refl, Nat.zero_le, or_true, true_or, exists_const, Int.sub_zero])
            exact ⟨kp, rw9, hR9, home, hs, hh9, ih9, st9, hN9, ix9, _, hO9, ndr', hlen2, hrn', rg7.rest rr pl⟩
          · have rw10 := rw9.took hpl M10 b10
            obtain ⟨dx9, _, _, ws9, hp9, _, _, hl9, _⟩ := rw9.at_ pl hpl
            have tk := b10.tk hp9 hl9
            have kp9 : ∀ {q : Addr} {l : List V}, H9 q = some (.lst l) → ls pl ≠ q → H10 q = some (.lst l) := fun h n => b10.keep _ _ h (ne_il hp9 h).symm n.symm
            have hR10 := kp9 hR9 (far pl hpl).1
            have hN10 := kp9 hN9 (far pl hpl).2.2.1
            have hh10 := kp9 hh9 (far pl hpl).2.2.2
            have hO10 := kp9 hO9 (nOl pl hpl)
            have st10 : St2 H10 s0 := by obtain ⟨sx, sy, z⟩ := st9; exact ⟨sx, sy, kp9 z (far pl hpl).2.1⟩
            have ix10 := ImAll.mono tk _ _ ix9
            have ih10 := ImAll.mono tk _ _ ih9
            by_cases hy : pl = y
            · have rr : ring = true := by
                cases ring with
                | true => rfl
                | false =>
                  have := rg7.line rfl
                  have := rg7.two
                  exact absurd ⟨rfl, by omega⟩ hno
              rw [hy] at rw10 hpm ndr' hlen2 hrn' hO10 ⊢
              have hkp : (fun j => if j = y then takeS (nm y) (M y) (kp y) (tells (M (nxt ts.length y)) (kp (nxt ts.length y))) else kp j) = kp := by
                funext j
                by_cases e : j = y
                · rw [if_pos e, rg7.takeY rr, e, rg7.kpy]
                · rw [if_neg e]
              rw [hkp] at rw10
              by_cases hin : M y ∈ tells (M (nxt ts.length y)) (kp (nxt ts.length y))
              · rw [decide_eq_true hin]
                obtain ⟨x, hxa, ixx⟩ := names_at (n := ts.length) (nm := nm) rg7.yl (by rw [hnm]; exact ix10)
                (try simp only [ne_0_1, ne_0_1b, ne_0_2, ne_0_2b, ne_0_3, ne_0_3b, ne_0_4, ne_0_4b, ne_0_5, ne_0_5b, ne_1_0, ne_1_0b, ne_1_2, ne_1_2b, ne_1_3, ne_1_3b, ne_1_4, ne_1_4b, ne_1_5, ne_1_5b, ne_2_0, ne_2_0b, ne_2_1, ne_2_1b, ne_2_3, ne_2_3b, ne_2_4, ne_2_4b, ne_2_5, ne_2_5b, ne_3_0, ne_3_0b, ne_3_1, ne_3_1b, ne_3_2, ne_3_2b, ne_4_0, ne_4_0b, ne_4_1, ne_4_1b, ne_4_2, ne_4_2b, ne_5_0, ne_5_0b, ne_5_1, ne_5_1b, ne_5_2, ne_5_2b, cxOf, Cx.nox, Cx.wish, tSeq, tAsg, tC, gName, tIfS, tTest, tOp, tUn, rU, rI0, rI, tVar, tNext, tRevT, tDNewK, tBreak, tChain, iStr, tRet, tRetN, tDrop, tLst, tTup, tCons, tNil, tCB, tB, tOr, tAnd, tNot, tIf, tCall, tFor_eq, tLc_eq, iRng1, iRng2, iList, iTup, gTup, gTupH, gUnlH, gCons, gNil, gSub, rSetL, rIxL, rIxT, rIxLH, rIxTH, rSlTS, rCatS, rTupS, rIsiH, rLenS, V.ty.injEq, tyS_non, tyS_bl, tyS_int, tyS_str, tyS_ref, tyO_l, tyO_t, tyO_d, tyO_dt, kit_ll, kit_tt, kit_bb, kit_ii, kit_ib, kit_bi, kit_nt, kit_it, kit_st, kit_bt, kit_lt, kit_dt, kit_ni, kit_si, kit_ti, kit_li, kit_di, kit_nb, kit_ns, kit_is, kit_bs, kit_ss, kit_ts, kit_ls, kit_ds, kit_dd, lenS_ref, lenO_l, lenO_t,  rAppend, tM1, rIxS, tSl, tPart, tNoPart, tBM, tBM0, tDGetS, sDPutS, tTruS, truO_l, truO_t, truS_ref, truS_non, truS_bl, truS_int, tFld, sFld, sFldAug, rAdd, tMeth, tProp, tMake, tMakeK, List.take_succ_cons, List.take_zero, List.drop_succ_cons, List.drop_zero, List.take_nil, tIsN, tNotN, tAndV, tOrV, tNotV, putF, List.lookup, List.any_cons, List.any_nil, Sum.inr.injEq, HO.ins.injEq, HO.dK.injEq, eq_self, beq_self_eq_true, beq_iff_eq, decide_true, decide_false, Bool.or_true, Bool.true_or, Bool.or_false, Bool.false_or, tYes, rEq, rNe, _root_.L2.start, wipe, List.map_cons, List.map_nil, List.length_cons, List.length_nil, List.append_nil, Nat.reduceAdd, Nat.reduceSub, List.replicate_succ, List.replicate_zero, List.cons_append, List.nil_append, List.getElem?_cons_zero, List.getElem?_cons_succ, List.set_cons_zero, List.set_cons_succ, Option.some.injEq, V.int.injEq, V.ref.injEq, V.bl.injEq, V.str.injEq, List.cons.injEq, HO.lst.injEq, HO.tup.injEq, and_assoc, and_true, true_and, exists_eq_left, exists_eq_left', exists_and_left, exists_eq, reduceCtorEq, false_and, and_false, or_false, false_or, exists_false, decide_eq_true_eq, CPow, CDivW, Int.reducePow, Int.reduceLT, Int.reduceLE, Int.reduceNeg, Int.reduceToNat, Int.reduceAbs, Nat.reducePow, Nat.reduceLT, Nat.reduceLeDiff, sizeLine_eq, Int.reduceMul, Int.reduceAdd, Int.reduceSub, Bool.not_eq_true', decide_eq_false_iff_not, scal, Bool.not_true, Bool.not_false, Bool.true_eq_false, Bool.false_eq_true, ite_false, ite_true, if_true, if_false, ite_self, forall_const, atI0, atI1, atI2, atI3, ixN20, ixN21, upd_same, upd_upd, Int.zero_add, CMul, Int.reduceSub, Nat.le_refl, Nat.zero_le, or_true, true_or, exists_const, Int.sub_zero, hN10, hxa, rNotInD, hh10])
                refine ⟨_, Im.dp _ _ ixx, _, .lst (SqL.of hh10) (ImAll.dp _ _ ih10), tD_shaped _, tDs_shaped _, ?_⟩
                rw [tDs_any]
                by_cases hnh : nm y ∈ home
                · rw [decide_eq_true hnh, if_neg (by simp)]
                  exact ⟨kp, rw10, hR10, home, ih10, st10, ix10, _, hO10, ndr', hlen2, hrn', rg7.came rr hpm home (by rw [if_neg fun z => z.2 hnh])⟩
                · rw [decide_eq_false hnh, if_pos rfl]
                  have hhl : hs.length ≤ 1 := by
                    have := ih10.len
                    rw [List.length_map] at this
                    rcases rg7.hm with z | ⟨_, z⟩
                    · rw [z] at this; simp only [List.length_nil] at this; omega
                    · rw [z] at this; simp only [List.length_cons, List.length_nil] at this; omega
                  refine ⟨tyL hh10, by omega, kp, { rw10 with at_ := fun k hk => (rw10.at_ k hk).put hh10 (far k hk).2.2.2 }, get_ne nhR hR10, home ++ [nm y], ?_, St2.ne st10 nhs, get_ne nhN hN10, imsPut hh10 ix10, _, get_ne nOh.symm hO10, ndr', hlen2, hrn', rg7.came rr hpm _ (by rw [if_pos ⟨hin, hnh⟩])⟩
                  rw [List.map_append]
                  exact ims_app hh10 ih10 ixx
              · rw [decide_eq_false hin]
                (try simp only [ne_0_1, ne_0_1b, ne_0_2, ne_0_2b, ne_0_3, ne_0_3b, ne_0_4, ne_0_4b, ne_0_5, ne_0_5b, ne_1_0, ne_1_0b, ne_1_2, ne_1_2b, ne_1_3, ne_1_3b, ne_1_4, ne_1_4b, ne_1_5, ne_1_5b, ne_2_0, ne_2_0b, ne_2_1, ne_2_1b, ne_2_3, ne_2_3b, ne_2_4, ne_2_4b, ne_2_5, ne_2_5b, ne_3_0, ne_3_0b, ne_3_1, ne_3_1b, ne_3_2, ne_3_2b, ne_4_0, ne_4_0b, ne_4_1, ne_4_1b, ne_4_2, ne_4_2b, ne_5_0, ne_5_0b, ne_5_1, ne_5_1b, ne_5_2, ne_5_2b, cxOf, Cx.nox, Cx.wish, tSeq, tAsg, tC, gName, tIfS, tTest, tOp, tUn, rU, rI0, rI, tVar, tNext, tRevT, tDNewK, tBreak, tChain, iStr, tRet, tRetN, tDrop, tLst, tTup, tCons, tNil, tCB, tB, tOr, tAnd, tNot, tIf, tCall, tFor_eq, tLc_eq, iRng1, iRng2, iList, iTup, gTup, gTupH, gUnlH, gCons, gNil, gSub, rSetL, rIxL, rIxT, rIxLH, rIxTH, rSlTS, rCatS, rTupS, rIsiH, rLenS, V.ty.injEq, tyS_non, tyS_bl, tyS_int, tyS_str, tyS_ref, tyO_l, tyO_t, tyO_d, tyO_dt, kit_ll, kit_tt, kit_bb, kit_ii, kit_ib, kit_bi, kit_nt, kit_it, kit_st, kit_bt, kit_lt, kit_dt, kit_ni, kit_si, kit_ti, kit_li, kit_di, kit_nb, kit_ns, kit_is, kit_bs, kit_ss, kit_ts, kit_ls, kit_ds, kit_dd, lenS_ref, lenO_l, lenO_t,  rAppend, tM1, rIxS, tSl, tPart, tNoPart, tBM, tBM0, tDGetS, sDPutS, tTruS, truO_l, truO_t, truS_ref, truS_non, truS_bl, truS_int, tFld, sFld, sFldAug, rAdd, tMeth, tProp, tMake, tMakeK, List.take_succ_cons, List.take_zero, List.drop_succ_cons, List.drop_zero, List.take_nil, tIsN, tNotN, tAndV, tOrV, tNotV, putF, List.lookup, List.any_cons, List.any_nil, Sum.inr.injEq, HO.ins.injEq, HO.dK.injEq, eq_self, beq_self_eq_true, beq_iff_eq, decide_true, decide_false, Bool.or_true, Bool.true_or, Bool.or_false, Bool.false_or, tYes, rEq, rNe, _root_.L2.start, wipe, List.map_cons, List.map_nil, List.length_cons, List.length_nil, List.append_nil, Nat.reduceAdd, Nat.reduceSub, List.replicate_succ, List.replicate_zero, List.cons_append, List.nil_append, List.getElem?_cons_zero, List.getElem?_cons_succ, List.set_cons_zero, List.set_cons_succ, Option.some.injEq, V.int.injEq, V.ref.injEq, V.bl.injEq, V.str.injEq, List.cons.injEq, HO.lst.injEq, HO.tup.injEq, and_assoc, and_true, true_and, exists_eq_left, exists_eq_left', exists_and_left, exists_eq, reduceCtorEq, false_and, and_false, or_false, false_or, exists_false, decide_eq_true_eq, CPow, CDivW, Int.reducePow, Int.reduceLT, Int.reduceLE, Int.reduceNeg, Int.reduceToNat, Int.reduceAbs, Nat.reducePow, Nat.reduceLT, Nat.reduceLeDiff, sizeLine_eq, Int.reduceMul, Int.reduceAdd, Int.reduceSub, Bool.not_eq_true', decide_eq_false_iff_not, scal, Bool.not_true, Bool.not_false, Bool.true_eq_false, Bool.false_eq_true, ite_false, ite_true, if_true, if_false, ite_self, forall_const, atI0, atI1, atI2, atI3, ixN20, ixN21, upd_same, upd_upd, Int.zero_add, CMul, Int.reduceSub, Nat.le_refl, Nat.zero_le, or_true, true_or, exists_const, Int.sub_zero])
                exact ⟨kp, rw10, hR10, home, hs, hh10, ih10, st10, hN10, ix10, _, hO10, ndr', hlen2, hrn', rg7.came rr hpm home (by rw [if_neg fun z => hin z.1])⟩
            · rw [decide_eq_false (rg7.not_own hpl hy)]
              (try simp only [ne_0_1, ne_0_1b, ne_0_2, ne_0_2b, ne_0_3, ne_0_3b, ne_0_4, ne_0_4b, ne_0_5, ne_0_5b, ne_1_0, ne_1_0b, ne_1_2, ne_1_2b, ne_1_3, ne_1_3b, ne_1_4, ne_1_4b, ne_1_5, ne_1_5b, ne_2_0, ne_2_0b, ne_2_1, ne_2_1b, ne_2_3, ne_2_3b, ne_2_4, ne_2_4b, ne_2_5, ne_2_5b, ne_3_0, ne_3_0b, ne_3_1, ne_3_1b, ne_3_2, ne_3_2b, ne_4_0, ne_4_0b, ne_4_1, ne_4_1b, ne_4_2, ne_4_2b, ne_5_0, ne_5_0b, ne_5_1, ne_5_1b, ne_5_2, ne_5_2b, cxOf, Cx.nox, Cx.wish, tSeq, tAsg, tC, gName, tIfS, tTest, tOp, tUn, rU, rI0, rI, tVar, tNext, tRevT, tDNewK, tBreak, tChain, iStr, tRet, tRetN, tDrop, tLst, tTup, tCons, tNil, tCB, tB, tOr, tAnd, tNot, tIf, tCall, tFor_eq, tLc_eq, iRng1, iRng2, iList, iTup, gTup, gTupH, gUnlH, gCons, gNil, gSub, rSetL, rIxL, rIxT, rIxLH, rIxTH, rSlTS, rCatS, rTupS, rIsiH, rLenS, V.ty.injEq, tyS_non, tyS_bl, tyS_int, tyS_str, tyS_ref, tyO_l, tyO_t, tyO_d, tyO_dt, kit_ll, kit_tt, kit_bb, kit_ii, kit_ib, kit_bi, kit_nt, kit_it, kit_st, kit_bt, kit_lt, kit_dt, kit_ni, kit_si, kit_ti, kit_li, kit_di, kit_nb, kit_ns, kit_is, kit_bs, kit_ss, kit_ts, kit_ls, kit_ds, kit_dd, lenS_ref, lenO_l, lenO_t,  rAppend, tM1, rIxS, tSl, tPart, tNoPart, tBM, tBM0, tDGetS, sDPutS, tTruS, truO_l, truO_t, truS_ref, truS_non, truS_bl, truS_int, tFld, sFld, sFldAug, rAdd, tMeth, tProp, tMake, tMakeK, List.take_succ_cons, List.take_zero, List.drop_succ_cons, List.drop_zero, List.take_nil, tIsN, tNotN, tAndV, tOrV, tNotV, putF, List.lookup, List.any_cons, List.any_nil, Sum.inr.injEq, HO.ins.injEq, HO.dK.injEq, eq_self, beq_self_eq_true, beq_iff_eq, decide_true, decide_false, Bool.or_true, Bool.true_or, Bool.or_false, Bool.false_or, tYes, rEq, rNe, _root_.L2.start, wipe, List.map_cons, List.map_nil, List.length_cons, List.length_nil, List.append_nil, Nat.reduceAdd, Nat.reduceSub, List.replicate_succ, List.replicate_zero, List.cons_append, List.nil_append, List.getElem?_cons_zero, List.getElem?_cons_succ, List.set_cons_zero, List.set_cons_succ, Option.some.injEq, V.int.injEq, V.ref.injEq, V.bl.injEq, V.str.injEq, List.cons.injEq, HO.lst.injEq, HO.tup.injEq, and_assoc, and_true, true_and, exists_eq_left, exists_eq_left', exists_and_left, exists_eq, reduceCtorEq, false_and, and_false, or_false, false_or, exists_false, decide_eq_true_eq, CPow, CDivW, Int.reducePow, Int.reduceLT, Int.reduceLE, Int.reduceNeg, Int.reduceToNat, Int.reduceAbs, Nat.reducePow, Nat.reduceLT, Nat.reduceLeDiff, sizeLine_eq, Int.reduceMul, Int.reduceAdd, Int.reduceSub, Bool.not_eq_true', decide_eq_false_iff_not, scal, Bool.not_true, Bool.not_false, Bool.true_eq_false, Bool.false_eq_true, ite_false, ite_true, if_true, if_false, ite_self, forall_const, atI0, atI1, atI2, atI3, ixN20, ixN21, upd_same, upd_upd, Int.zero_add, CMul, Int.reduceSub, Nat.le_refl, Nat.zero_le, or_true, true_or, exists_const, Int.sub_zero])
              exact ⟨_, rw10, hR10, home, hs, hh10, ih10, st10, hN10, ix10, _, hO10, ndr', hlen2, hrn', rg7.take hpl hy hpm ndr⟩
        · rintro σ H7 ⟨kp, home, hs, rem, b6, b10, b11, rfl, rw7, hR7, hh7, ih7, st7, hN7, ix7, hO7, ndr, hrl, hrn, rg7⟩
          have hr0 : rem = [] := List.length_eq_zero_iff.mp (by omega)
          subst hr0
          refine ⟨kp, home, hs, _, _, _, _, _, rfl, rw7, hR7, hh7, ih7, st7, hN7, ix7, ?_⟩
          by_cases e : t + 1 = ts.length
          · refine .inr ⟨e, ?_⟩
            rw [show ts.length - 1 = t by omega]
            exact rg7
          · exact .inl ⟨by omega, rg7.round _ fun k hk => List.mem_range.mpr hk⟩
      · rintro σ H5 ⟨kp, home, hs, b6, b8, b9, b10, b11, rfl, rw5, hR5, hh5, ih5, st5, hN5, ix5, hc⟩
        have rg5 : RG ts.length y ring nm M kp (ts.length - 1) [] home := by
          rcases hc with h | h
          · omega
          · exact h.2
        have ho := rg5.over
        (try simp only [ne_0_1, ne_0_1b, ne_0_2, ne_0_2b, ne_0_3, ne_0_3b, ne_0_4, ne_0_4b, ne_0_5, ne_0_5b, ne_1_0, ne_1_0b, ne_1_2, ne_1_2b, ne_1_3, ne_1_3b, ne_1_4, ne_1_4b, ne_1_5, ne_1_5b, ne_2_0, ne_2_0b, ne_2_1, ne_2_1b, ne_2_3, ne_2_3b, ne_2_4, ne_2_4b, ne_2_5, ne_2_5b, ne_3_0, ne_3_0b, ne_3_1, ne_3_1b, ne_3_2, ne_3_2b, ne_4_0, ne_4_0b, ne_4_1, ne_4_1b, ne_4_2, ne_4_2b, ne_5_0, ne_5_0b, ne_5_1, ne_5_1b, ne_5_2, ne_5_2b, cxOf, Cx.nox, Cx.wish, tSeq, tAsg, tC, gName, tIfS, tTest, tOp, tUn, rU, rI0, rI, tVar, tNext, tRevT, tDNewK, tBreak, tChain, iStr, tRet, tRetN, tDrop, tLst, tTup, tCons, tNil, tCB, tB, tOr, tAnd, tNot, tIf, tCall, tFor_eq, tLc_eq, iRng1, iRng2, iList, iTup, gTup, gTupH, gUnlH, gCons, gNil, gSub, rSetL, rIxL, rIxT, rIxLH, rIxTH, rSlTS, rCatS, rTupS, rIsiH, rLenS, V.ty.injEq, tyS_non, tyS_bl, tyS_int, tyS_str, tyS_ref, tyO_l, tyO_t, tyO_d, tyO_dt, kit_ll, kit_tt, kit_bb, kit_ii, kit_ib, kit_bi, kit_nt, kit_it, kit_st, kit_bt, kit_lt, kit_dt, kit_ni, kit_si, kit_ti, kit_li, kit_di, kit_nb, kit_ns, kit_is, kit_bs, kit_ss, kit_ts, kit_ls, kit_ds, kit_dd, lenS_ref, lenO_l, lenO_t,  rAppend, tM1, rIxS, tSl, tPart, tNoPart, tBM, tBM0, tDGetS, sDPutS, tTruS, truO_l, truO_t, truS_ref, truS_non, truS_bl, truS_int, tFld, sFld, sFldAug, rAdd, tMeth, tProp, tMake, tMakeK, List.take_succ_cons, List.take_zero, List.drop_succ_cons, List.drop_zero, List.take_nil, tIsN, tNotN, tAndV, tOrV, tNotV, putF, List.lookup, List.any_cons, List.any_nil, Sum.inr.injEq, HO.ins.injEq, HO.dK.injEq, eq_self, beq_self_eq_true, beq_iff_eq, decide_true, decide_false, Bool.or_true, Bool.true_or, Bool.or_false, Bool.false_or, tYes, rEq, rNe, _root_.L2.start, wipe, List.map_cons, List.map_nil, List.length_cons, List.length_nil, List.append_nil, Nat.reduceAdd, Nat.reduceSub, List.replicate_succ, List.replicate_zero, List.cons_append, List.nil_append, List.getElem?_cons_zero, List.getElem?_cons_succ, List.set_cons_zero, List.set_cons_succ, Option.some.injEq, V.int.injEq, V.ref.injEq, V.bl.injEq, V.str.injEq, List.cons.injEq, HO.lst.injEq, HO.tup.injEq, and_assoc, and_true, true_and, exists_eq_left, exists_eq_left', exists_and_left, exists_eq, reduceCtorEq, false_and, and_false, or_false, false_or, exists_false, decide_eq_true_eq, CPow, CDivW, Int.reducePow, Int.reduceLT, Int.reduceLE, Int.reduceNeg, Int.reduceToNat, Int.reduceAbs, Nat.reducePow, Nat.reduceLT, Nat.reduceLeDiff, sizeLine_eq, Int.reduceMul, Int.reduceAdd, Int.reduceSub, Bool.not_eq_true', decide_eq_false_iff_not, scal, Bool.not_true, Bool.not_false, Bool.true_eq_false, Bool.false_eq_true, ite_false, ite_true, if_true, if_false, ite_self, forall_const, atI0, atI1, atI2, atI3, ixN20, ixN21, upd_same, upd_upd, Int.zero_add, CMul, Int.reduceSub, Nat.le_refl, Nat.zero_le, or_true, true_or, exists_const, Int.sub_zero])
        cases ring with
        | true =>
          rw [if_pos rfl] at ho hyy ⊢
          subst hyy
          subst ho
          have ix5' := ix5
          rw [hds] at ix5'
          unfold rMaxD
          refine ⟨N, xs, d, ds, rfl, hN5, ix5', by rw [← hds]; exact tDs_alikeAll _, fun e he => by rw [← hds] at he; obtain ⟨t, _, rfl⟩ := List.mem_map.mp he; rw [tD_depth]; decide, fun v _ iv => ?_⟩
          intro p hp
          have hnmy : tD (ts.getD yr (0, 0)) = tD (nm yr) := by rw [← hnmf]
          rw [hmax, hnmy] at iv
          unfold rEqD
          refine ⟨_, _, .lst (SqL.of (get_new hp hh5)) (ImAll.dp _ _ (imsNew hp ih5)), .lst (SqL.of upd_same) (.cons (Im.dp _ _ (imNew hp iv)) .nil), tDs_shaped _, tDs_shaped [nm yr], ?_⟩
          rw [show ([tD (nm yr)] : List PyData) = [nm yr].map tD from rfl, SeqAt.eqv_refl _ (SeqAt.canLay_of_shaped (tDs_shaped [nm yr]))]
          exact kk _
        | false =>
          rw [if_neg (by simp)] at ho ⊢
          subst ho
          intro p hp
          unfold rEqD
          refine ⟨_, _, .lst (SqL.of (get_new hp hh5)) (ImAll.dp _ _ (imsNew hp ih5)), .lst (SqL.of upd_same) .nil, tDs_shaped _, by decide, ?_⟩
          rw [show PyData.eqv (.list (List.map tD [])) (.list []) = true from by simp [PyData.eqv, PyData.eqvAll]]
          exact kk _
end
theorem all_mk {l : PySem.W.OpenLaw} {w : World} {K : PySem.W.Frag} {h : Heap} {mg : Str → Option Value} {fa C_Marks f_Marks_init f_Marks_begin f_Marks_take f_Marks_told f_law_stream f_law_next f_law_transaction f_law_names f_law_next_takes f_law : Addr} (X : K.In h) (G : h.Ns mainGlobals mg) (hfa : mg "law" = some (.ref fa))
    {od1 an1 od2 an2 od3 an3 od4 an4 od5 an5 od6 an6 od7 an7 od8 an8 od9 an9 od10 an10 : Option Addr} {sl1 sl2 sl3 sl4 sl5 sl6 sl7 sl8 sl9 sl10 : Array (Option Value)} {oc1 kV1 dc1 pm1 cd1 ct1 oc2 kV2 dc2 pm2 cd2 ct2 oc3 kV3 dc3 pm3 cd3 ct3 oc4 kV4 dc4 pm4 cd4 ct4 oc5 kV5 dc5 pm5 cd5 ct5 oc6 kV6 dc6 pm6 cd6 ct6 oc7 kV7 dc7 pm7 cd7 ct7 oc8 kV8 dc8 pm8 cd8 ct8 oc9 kV9 dc9 pm9 cd9 ct9 oc10 kV10 dc10 pm10 cd10 ct10 : Value}
    (aC_Marks : PySem.W.nsIn K mainGlobals "Marks" = some (some (.ref C_Marks)))
    (pg_Marks : PySem.W.plainGet K C_Marks Str.empty = true)
    (hd_Marks : PySem.W.hasDictIn K C_Marks = true)
    (po_Marks : PySem.W.plainOver K C_Marks = true)
    (sa_Marks : PySem.W.findIn K (.ref C_Marks) "__setattr__" = some (some (.builtin "object.__setattr__")))
    (mk_Marks : PySem.W.makesIn K C_Marks = true)
    (kc_Marks : PySem.W.keepIn K (.ref C_Marks) = true)
    (na_Marks_transaction : PySem.W.findIn K (.ref C_Marks) "_transaction" = some none)
    (na_Marks_own : PySem.W.findIn K (.ref C_Marks) "_own" = some none)
    (na_Marks_kept : PySem.W.findIn K (.ref C_Marks) "_kept" = some none)
    (a1 : PySem.W.findIn K (.ref C_Marks) "__init__" = some (some (.ref f_Marks_init)))
    (i1 : PySem.W.isFn K (.ref f_Marks_init) = true)
    (l1 : K.lookup f_Marks_init = some ⟨oc1, od1, .func (PySem.W.fnOf "__init__" "Marks.__init__" (defArgs s_Marks_init) (defBody s_Marks_init) (defScope s_Marks_init) .none kV1 dc1 pm1 an1 cd1 ct1), sl1⟩)
    (c1 : PySem.W.codeIn K cd1 "Marks.__init__" = true)
    (k1 : PySem.W.keepIn K (.ref f_Marks_init) = true)
    (a2 : PySem.W.findIn K (.ref C_Marks) "begin" = some (some (.ref f_Marks_begin)))
    (i2 : PySem.W.isFn K (.ref f_Marks_begin) = true)
    (l2 : K.lookup f_Marks_begin = some ⟨oc2, od2, .func (PySem.W.fnOf "begin" "Marks.begin" (defArgs s_Marks_begin) (defBody s_Marks_begin) (defScope s_Marks_begin) .none kV2 dc2 pm2 an2 cd2 ct2), sl2⟩)
    (c2 : PySem.W.codeIn K cd2 "Marks.begin" = true)
    (k2 : PySem.W.keepIn K (.ref f_Marks_begin) = true)
    (a3 : PySem.W.findIn K (.ref C_Marks) "take" = some (some (.ref f_Marks_take)))
    (i3 : PySem.W.isFn K (.ref f_Marks_take) = true)
    (l3 : K.lookup f_Marks_take = some ⟨oc3, od3, .func (PySem.W.fnOf "take" "Marks.take" (defArgs s_Marks_take) (defBody s_Marks_take) (defScope s_Marks_take) .none kV3 dc3 pm3 an3 cd3 ct3), sl3⟩)
    (c3 : PySem.W.codeIn K cd3 "Marks.take" = true)
    (k3 : PySem.W.keepIn K (.ref f_Marks_take) = true)
    (a4 : PySem.W.findIn K (.ref C_Marks) "told" = some (some (.ref f_Marks_told)))
    (i4 : PySem.W.isFn K (.ref f_Marks_told) = true)
    (l4 : K.lookup f_Marks_told = some ⟨oc4, od4, .func (PySem.W.fnOf "told" "Marks.told" (defArgs s_Marks_told) (defBody s_Marks_told) (defScope s_Marks_told) .none kV4 dc4 pm4 an4 cd4 ct4), sl4⟩)
    (c4 : PySem.W.codeIn K cd4 "Marks.told" = true)
    (k4 : PySem.W.keepIn K (.ref f_Marks_told) = true)
    (a5 : PySem.W.nsIn K mainGlobals "_law_stream" = some (some (.ref f_law_stream)))
    (l5 : K.lookup f_law_stream = some ⟨oc5, od5, .func (PySem.W.fnOf "_law_stream" "_law_stream" (defArgs s_law_stream) (defBody s_law_stream) (defScope s_law_stream) .none kV5 dc5 pm5 an5 cd5 ct5), sl5⟩)
    (c5 : PySem.W.codeIn K cd5 "_law_stream" = true)
    (k5 : PySem.W.keepIn K (.ref f_law_stream) = true)
    (a6 : PySem.W.nsIn K mainGlobals "_law_next" = some (some (.ref f_law_next)))
    (l6 : K.lookup f_law_next = some ⟨oc6, od6, .func (PySem.W.fnOf "_law_next" "_law_next" (defArgs s_law_next) (defBody s_law_next) (defScope s_law_next) .none kV6 dc6 pm6 an6 cd6 ct6), sl6⟩)
    (c6 : PySem.W.codeIn K cd6 "_law_next" = true)
    (k6 : PySem.W.keepIn K (.ref f_law_next) = true)
    (a7 : PySem.W.nsIn K mainGlobals "_law_transaction" = some (some (.ref f_law_transaction)))
    (l7 : K.lookup f_law_transaction = some ⟨oc7, od7, .func (PySem.W.fnOf "_law_transaction" "_law_transaction" (defArgs s_law_transaction) (defBody s_law_transaction) (defScope s_law_transaction) .none kV7 dc7 pm7 an7 cd7 ct7), sl7⟩)
    (c7 : PySem.W.codeIn K cd7 "_law_transaction" = true)
    (k7 : PySem.W.keepIn K (.ref f_law_transaction) = true)
    (a8 : PySem.W.nsIn K mainGlobals "_law_names" = some (some (.ref f_law_names)))
    (l8 : K.lookup f_law_names = some ⟨oc8, od8, .func (PySem.W.fnOf "_law_names" "_law_names" (defArgs s_law_names) (defBody s_law_names) (defScope s_law_names) .none kV8 dc8 pm8 an8 cd8 ct8), sl8⟩)
    (c8 : PySem.W.codeIn K cd8 "_law_names" = true)
    (k8 : PySem.W.keepIn K (.ref f_law_names) = true)
    (a9 : PySem.W.nsIn K mainGlobals "_law_next_takes" = some (some (.ref f_law_next_takes)))
    (l9 : K.lookup f_law_next_takes = some ⟨oc9, od9, .func (PySem.W.fnOf "_law_next_takes" "_law_next_takes" (defArgs s_law_next_takes) (defBody s_law_next_takes) (defScope s_law_next_takes) .none kV9 dc9 pm9 an9 cd9 ct9), sl9⟩)
    (c9 : PySem.W.codeIn K cd9 "_law_next_takes" = true)
    (k9 : PySem.W.keepIn K (.ref f_law_next_takes) = true)
    (a10 : PySem.W.nsIn K mainGlobals "law" = some (some (.ref f_law)))
    (l10 : K.lookup f_law = some ⟨oc10, od10, .func (PySem.W.fnOf "law" "law" (defArgs s_law) (defBody s_law) (defScope s_law) .none kV10 dc10 pm10 an10 cd10 ct10), sl10⟩)
    (c10 : PySem.W.codeIn K cd10 "law" = true)
    (k10 : PySem.W.keepIn K (.ref f_law) = true)
    (zz_tuple : PySem.W.nsIn K mainGlobals "tuple" = some none)
    (zz_sorted : PySem.W.nsIn K mainGlobals "sorted" = some none)
    (zz_int : PySem.W.nsIn K mainGlobals "int" = some none)
    (zz_range : PySem.W.nsIn K mainGlobals "range" = some none)
    (zz_len : PySem.W.nsIn K mainGlobals "len" = some none)
    (zz_list : PySem.W.nsIn K mainGlobals "list" = some none)
    (zz_max : PySem.W.nsIn K mainGlobals "max" = some none)
    : ∃ fd : FuncData, (∀ (s : Shared) (v : Value), BindsTo s fd ⟨[v], []⟩ [("_law_script", v)]) ∧ ∀ base : Heap, K.In base → base.Ns mainGlobals mg → FnOk l.prog w K mg base CX0 4 fa fd ["_law_script"] (spLaw K) := by
  have e := hfa.symm.trans (PySem.W.mg_of X G a10)
  have e2 : fa = f_law := by injection e with e; injection e
  subst e2
  have F1 := fun_mk (st := s_Marks_init) l1 c1 k1
  have b1 := F1.binds (ps := ["self", "transaction"]) fun _ _ _ _ _ _ us hl => match us, hl with | [_, _], _ => rfl
  have F2 := fun_mk (st := s_Marks_begin) l2 c2 k2
  have b2 := F2.binds (ps := ["self", "mark"]) fun _ _ _ _ _ _ us hl => match us, hl with | [_, _], _ => rfl
  have F3 := fun_mk (st := s_Marks_take) l3 c3 k3
  have b3 := F3.binds (ps := ["self", "marks"]) fun _ _ _ _ _ _ us hl => match us, hl with | [_, _], _ => rfl
  have F4 := fun_mk (st := s_Marks_told) l4 c4 k4
  have b4 := F4.binds (ps := ["self"]) fun _ _ _ _ _ _ us hl => match us, hl with | [_], _ => rfl
  have F5 := fun_mk (st := s_law_stream) l5 c5 k5
  have b5 := F5.binds (ps := ["_law_cell", "_law_k"]) fun _ _ _ _ _ _ us hl => match us, hl with | [_, _], _ => rfl
  have F6 := fun_mk (st := s_law_next) l6 c6 k6
  have b6 := F6.binds (ps := ["_law_stream_here", "_law_size"]) fun _ _ _ _ _ _ us hl => match us, hl with | [_, _], _ => rfl
  have F7 := fun_mk (st := s_law_transaction) l7 c7 k7
  have b7 := F7.binds (ps := ["_law_stream_here"]) fun _ _ _ _ _ _ us hl => match us, hl with | [_], _ => rfl
  have F8 := fun_mk (st := s_law_names) l8 c8 k8
  have b8 := F8.binds (ps := ["_law_stream_here"]) fun _ _ _ _ _ _ us hl => match us, hl with | [_], _ => rfl
  have F9 := fun_mk (st := s_law_next_takes) l9 c9 k9
  have b9 := F9.binds (ps := ["_law_rows", "_law_names_here", "_law_k", "_law_ring"]) fun _ _ _ _ _ _ us hl => match us, hl with | [_, _, _, _], _ => rfl
  have F10 := fun_mk (st := s_law) l10 c10 k10
  have b10 := F10.binds (ps := ["_law_script"]) fun _ _ _ _ _ _ us hl => match us, hl with | [_], _ => rfl
  exact ⟨PySem.W.fnOf "law" "law" (defArgs s_law) (defBody s_law) (defScope s_law) .none kV10 dc10 pm10 an10 cd10 ct10, fun s v => .of_eq rfl, fun base _ _ => ok_law (⟨C_Marks, ⟨pg_Marks, hd_Marks, po_Marks, sa_Marks⟩, PySem.W.mg_of X G aC_Marks, na_Marks_transaction, na_Marks_own, na_Marks_kept, f_Marks_init, _, F1, b1, ⟨mk_Marks, a1, i1, kc_Marks⟩, f_Marks_begin, _, F2, b2, ⟨a2, i2, k2⟩, f_Marks_take, _, F3, b3, ⟨a3, i3, k3⟩, f_Marks_told, _, F4, b4, ⟨a4, i4, k4⟩, f_law_stream, _, F5, b5, PySem.W.mg_of X G a5, f_law_next, _, F6, b6, PySem.W.mg_of X G a6, f_law_transaction, _, F7, b7, PySem.W.mg_of X G a7, f_law_names, _, F8, b8, PySem.W.mg_of X G a8, f_law_next_takes, _, F9, b9, PySem.W.mg_of X G a9, fa, _, F10, b10, PySem.W.mg_of X G a10, PySem.W.mg_none_of X G zz_tuple, PySem.W.mg_none_of X G zz_sorted, PySem.W.mg_none_of X G zz_int, PySem.W.mg_none_of X G zz_range, PySem.W.mg_none_of X G zz_len, PySem.W.mg_none_of X G zz_list, PySem.W.mg_none_of X G zz_max⟩ : Txt K mg)⟩
theorem walk {l : PySem.W.OpenLaw} {q : Program} {loose : List Str} {XP : (Str → Option Value) → Heap → Prop} {YP : World → Heap → Prop} {d : DefRec} {K : Params → PySem.W.Frag} (hn : l.most = some 63) (hdf : d.params.defaults = [])
    (hY : ∀ (w : World) (h : Heap), YP w h → (K w.params).In h)
    (F : ∀ (w : World) (mg : Str → Option Value) (fa : Addr) (h : Heap), (K w.params).In h → h.Ns mainGlobals mg → mg d.name = some (.ref fa) →
      ∃ fd : FuncData, (∀ (s : Shared) (u : Value), BindsTo s fd ⟨[u], []⟩ [("_law_script", u)]) ∧ ∀ base : Heap, (K w.params).In base → base.Ns mainGlobals mg → FnOk l.prog w (K w.params) mg base CX0 4 fa fd ["_law_script"] (spLaw (K w.params))) :
    PySem.W.WalkO q loose XP YP l.row.toRowW d [] (fun f vs => PySem.call f vs) :=
  L2.walk_of (n := 63) (k := 4) (x := "_law_script") (CX := fun _ => CX0) (sp := fun w => spLaw (K w.params)) hn (by decide) hdf ⟨rfl, by decide, by decide⟩ hY F (fun _ _ a ns hl _ hS => ⟨a, ns, rfl, hS, hl, fun _ => rfl⟩) fun _ _ _ _ _ z => z
end G4
open PySem PySem.W PyProof.Rows
set_option maxRecDepth 100000 in
set_option maxHeartbeats 0 in
theorem PySem.Challenge.cw_ringloosed_k17_marks_come_home_round_a_r_holds : PySem.Challenge.rw_ringloosed_k17_marks_come_home_round_a_r.Holds := by
  w_on; o_law; k_head; (case hw => w_witness2)
  k_fill
  refine G4.walk (l := PySem.Challenge.rw_ringloosed_k17_marks_come_home_round_a_r) rfl rfl (fun w h Y => PySem.W.kIn_of Y) ?F
  case F =>
    intro w mg fa h KX G hmg
    refine' G4.all_mk KX G hmg ?aC_Marks ?pg_Marks ?hd_Marks ?po_Marks ?sa_Marks ?mk_Marks ?kc_Marks ?na_Marks_transaction ?na_Marks_own ?na_Marks_kept ?a1 ?i1 ?l1 ?c1 ?k1 ?a2 ?i2 ?l2 ?c2 ?k2 ?a3 ?i3 ?l3 ?c3 ?k3 ?a4 ?i4 ?l4 ?c4 ?k4 ?a5 ?l5 ?c5 ?k5 ?a6 ?l6 ?c6 ?k6 ?a7 ?l7 ?c7 ?k7 ?a8 ?l8 ?c8 ?k8 ?a9 ?l9 ?c9 ?k9 ?a10 ?l10 ?c10 ?k10 ?zz_tuple ?zz_sorted ?zz_int ?zz_range ?zz_len ?zz_list ?zz_max
    (case aC_Marks => k_is)
    (case pg_Marks => k_is)
    (case hd_Marks => k_is)
    (case po_Marks => k_is)
    (case sa_Marks => k_is)
    (case mk_Marks => k_is)
    (case kc_Marks => k_is)
    (case na_Marks_transaction => k_is)
    (case na_Marks_own => k_is)
    (case na_Marks_kept => k_is)
    (case a1 => k_is)
    (case i1 => k_is)
    (case l1 => k_is)
    (case c1 => k_is)
    (case k1 => k_is)
    (case a2 => k_is)
    (case i2 => k_is)
    (case l2 => k_is)
    (case c2 => k_is)
    (case k2 => k_is)
    (case a3 => k_is)
    (case i3 => k_is)
    (case l3 => k_is)
    (case c3 => k_is)
    (case k3 => k_is)
    (case a4 => k_is)
    (case i4 => k_is)
    (case l4 => k_is)
    (case c4 => k_is)
    (case k4 => k_is)
    (case a5 => k_is)
    (case l5 => k_is)
    (case c5 => k_is)
    (case k5 => k_is)
    (case a6 => k_is)
    (case l6 => k_is)
    (case c6 => k_is)
    (case k6 => k_is)
    (case a7 => k_is)
    (case l7 => k_is)
    (case c7 => k_is)
    (case k7 => k_is)
    (case a8 => k_is)
    (case l8 => k_is)
    (case c8 => k_is)
    (case k8 => k_is)
    (case a9 => k_is)
    (case l9 => k_is)
    (case c9 => k_is)
    (case k9 => k_is)
    (case a10 => k_is)
    (case l10 => k_is)
    (case c10 => k_is)
    (case k10 => k_is)
    (case zz_tuple => k_is)
    (case zz_sorted => k_is)
    (case zz_int => k_is)
    (case zz_range => k_is)
    (case zz_len => k_is)
    (case zz_list => k_is)
    (case zz_max => k_is)
