import PyProof.Rows.All
import Wide.All
import OpenK.AllK
import Wide.FinOn
import HandS.ForMost
import HandS.Wide
import HandS.IsInst
import HandS.Deep
import HandS.TupAny
import HandS.TupLe
import HandS.Flow
import HandS.Codes
import HandS.Defaults
import HandS.NoneIn
import HandS.MakeKw
import HandS.MakeKwOnly
import KE.SortData
import KE.DataMinMax
import KE.DataCmp
import KE.DataFind
import PySem.Challenge.RW_ringloosed_k10_whole_locks_side_by_side
set_option Elab.async false
set_option linter.all false
set_option autoImplicit false
set_option maxRecDepth 100000
set_option maxHeartbeats 8000000
namespace G4
open PySem L2
/-! ### G4 base: row-independent words -/
theorem hu65 {k : Nat} {A : Around} (hr : Room k A) : A.units + 65 < cLine := by have := hr.un; omega
/-- the tuples stay -/
def Tk (H H' : Hp) : Prop := ∀ b xs, H b = some (.tup xs) → H' b = some (.tup xs)
theorem Tk.refl (H : Hp) : Tk H H := fun _ _ h => h
theorem Tk.trans {H H1 H2 : Hp} (a : Tk H H1) (b : Tk H1 H2) : Tk H H2 := fun c o h => b c o (a c o h)
theorem Tk.new {H : Hp} {p : Addr} {o : HO} (h : H p = none) : Tk H (upd H p o) := fun b xs e => by rw [upd_ne (ne_of_none e h)]; exact e
theorem Tk.put {H : Hp} {p : Addr} {xs : List V} {o : HO} (h : H p = some (.lst xs)) : Tk H (upd H p o) := fun b ys e => by
  rw [upd_ne (ne_of e h (by intro z; cases z))]; exact e
theorem Tk.putI {H : Hp} {p C dx : Addr} {fs : List (Str × V)} {o : HO} (h : H p = some (.ins C dx fs)) : Tk H (upd H p o) := fun b ys e => by
  rw [upd_ne (ne_of e h (by intro z; cases z))]; exact e
theorem Tk.putD {H : Hp} {p : Addr} {kvs : List (Key × V)} {o : HO} (h : H p = some (.dK kvs)) : Tk H (upd H p o) := fun b ys e => by
  rw [upd_ne (ne_of e h (by intro z; cases z))]; exact e
theorem Tk.putT {H : Hp} {p : Addr} {kvs : List (List Key × V)} {o : HO} (h : H p = some (.dT kvs)) : Tk H (upd H p o) := fun b ys e => by
  rw [upd_ne (ne_of e h (by intro z; cases z))]; exact e
theorem Same.tk {H H' : Hp} (s : Same H H') : Tk H H' := fun b xs e => s b _ e
theorem same_new {H : Hp} {p : Addr} {o : HO} (h : H p = none) : Same H (upd H p o) := fun b x e => by rw [upd_ne (ne_of_none e h)]; exact e
theorem get_new {H : Hp} {p a : Addr} {o x : HO} (h : H p = none) (e : H a = some x) : upd H p o a = some x := same_new h a x e
theorem get_ne {H : Hp} {p a : Addr} {o x : HO} (h : a ≠ p) (e : H a = some x) : upd H p o a = some x := by rw [upd_ne h]; exact e
/-! ### data that never changes: none, bools, ints, texts, tuples of them -/
mutual
def Im (H : Hp) : PyData → V → Prop
  | .none, v => v = .non
  | .bool b, v => v = .bl b
  | .int i, v => v = .int i
  | .str x, v => v = .str x
  | .tuple ds, v => ∃ a xs, v = .ref a ∧ H a = some (.tup xs) ∧ ImAll H ds xs
  | .list _, _ => False
  | .dict _, _ => False
def ImAll (H : Hp) : List PyData → List V → Prop
  | [], vs => vs = []
  | d :: ds, vs => ∃ v r, vs = v :: r ∧ Im H d v ∧ ImAll H ds r
end
mutual
theorem Im.mono {H H' : Hp} (t : Tk H H') : ∀ (d : PyData) (v : V), Im H d v → Im H' d v
  | .none, _, h => by simpa only [Im] using h
  | .bool _, _, h => by simpa only [Im] using h
  | .int _, _, h => by simpa only [Im] using h
  | .str _, _, h => by simpa only [Im] using h
  | .tuple ds, v, h => by
    simp only [Im] at h ⊢
    obtain ⟨a, xs, e, ha, hx⟩ := h
    exact ⟨a, xs, e, t _ _ ha, ImAll.mono t ds xs hx⟩
  | .list _, _, h => by simp only [Im] at h
  | .dict _, _, h => by simp only [Im] at h
theorem ImAll.mono {H H' : Hp} (t : Tk H H') : ∀ (ds : List PyData) (vs : List V), ImAll H ds vs → ImAll H' ds vs
  | [], _, h => by simpa only [ImAll] using h
  | d :: ds, vs, h => by
    simp only [ImAll] at h ⊢
    obtain ⟨v, r, e, h1, h2⟩ := h
    exact ⟨v, r, e, Im.mono t d v h1, ImAll.mono t ds r h2⟩
end
mutual
theorem Im.dp {K : PySem.W.Frag} {H : Hp} : ∀ (d : PyData) (v : V), Im H d v → Dp K H v d
  | .none, _, h => by simp only [Im] at h; subst h; exact .non
  | .bool _, _, h => by simp only [Im] at h; subst h; exact .bl _
  | .int _, _, h => by simp only [Im] at h; subst h; exact .int _
  | .str _, _, h => by simp only [Im] at h; subst h; exact .str _
  | .tuple ds, v, h => by
    simp only [Im] at h
    obtain ⟨a, xs, rfl, ha, hx⟩ := h
    exact .tup (SqT.of ha) (ImAll.dp ds xs hx)
  | .list _, _, h => by simp only [Im] at h
  | .dict _, _, h => by simp only [Im] at h
theorem ImAll.dp {K : PySem.W.Frag} {H : Hp} : ∀ (ds : List PyData) (vs : List V), ImAll H ds vs → DpAll K H vs ds
  | [], _, h => by simp only [ImAll] at h; subst h; exact .nil
  | d :: ds, vs, h => by
    simp only [ImAll] at h
    obtain ⟨v, r, rfl, h1, h2⟩ := h
    exact .cons (Im.dp d v h1) (ImAll.dp ds r h2)
end
theorem ImAll.len {H : Hp} : ∀ {ds : List PyData} {vs : List V}, ImAll H ds vs → vs.length = ds.length
  | [], _, h => by simp only [ImAll] at h; subst h; rfl
  | d :: ds, vs, h => by
    simp only [ImAll] at h
    obtain ⟨v, r, rfl, h1, h2⟩ := h
    simp [ImAll.len h2]
theorem ImAll.get {H : Hp} : ∀ {ds : List PyData} {vs : List V} {i : Nat} {v : V}, ImAll H ds vs → vs[i]? = some v → ∃ d, ds[i]? = some d ∧ Im H d v
  | [], _, i, v, h, e => by simp only [ImAll] at h; subst h; simp at e
  | d :: ds, vs, i, v, h, e => by
    simp only [ImAll] at h
    obtain ⟨u, r, rfl, h1, h2⟩ := h
    cases i with
    | zero => simp at e; subst e; exact ⟨d, rfl, h1⟩
    | succ i => simp at e; obtain ⟨x, a, b⟩ := ImAll.get h2 e; exact ⟨x, by simpa using a, b⟩
theorem ImAll.get' {H : Hp} : ∀ {ds : List PyData} {vs : List V} {i : Nat} {d : PyData}, ImAll H ds vs → ds[i]? = some d → ∃ v, vs[i]? = some v ∧ Im H d v
  | [], _, i, v, h, e => by simp at e
  | d :: ds, vs, i, x, h, e => by
    simp only [ImAll] at h
    obtain ⟨u, r, rfl, h1, h2⟩ := h
    cases i with
    | zero => simp at e; subst e; exact ⟨u, rfl, h1⟩
    | succ i => simp at e; obtain ⟨x, a, b⟩ := ImAll.get' h2 e; exact ⟨x, by simpa using a, b⟩
theorem ImAll.snoc {H : Hp} : ∀ {ds : List PyData} {vs : List V} {d : PyData} {v : V}, ImAll H ds vs → Im H d v → ImAll H (ds ++ [d]) (vs ++ [v])
  | [], _, d, v, h, e => by simp only [ImAll] at h; subst h; exact ⟨v, [], rfl, e, by simp only [ImAll]⟩
  | x :: ds, vs, d, v, h, e => by
    simp only [ImAll] at h
    obtain ⟨u, r, rfl, h1, h2⟩ := h
    exact ⟨u, r ++ [v], rfl, h1, ImAll.snoc h2 e⟩
theorem ImAll.app {H : Hp} : ∀ {ds es : List PyData} {vs us : List V}, ImAll H ds vs → ImAll H es us → ImAll H (ds ++ es) (vs ++ us)
  | [], _, _, _, h, e => by simp only [ImAll] at h; subst h; exact e
  | x :: ds, es, vs, us, h, e => by
    simp only [ImAll] at h
    obtain ⟨u, r, rfl, h1, h2⟩ := h
    exact ⟨u, r ++ us, rfl, h1, ImAll.app h2 e⟩
theorem ImAll.take {H : Hp} : ∀ {ds : List PyData} {vs : List V} (n : Nat), ImAll H ds vs → ImAll H (ds.take n) (vs.take n)
  | _, _, 0, _ => by simp only [List.take_zero]; simp only [ImAll]
  | [], _, n + 1, h => by simp only [ImAll] at h; subst h; simp only [List.take_nil]; simp only [ImAll]
  | x :: ds, vs, n + 1, h => by
    simp only [ImAll] at h
    obtain ⟨u, r, rfl, h1, h2⟩ := h
    exact ⟨u, r.take n, rfl, h1, ImAll.take n h2⟩
theorem ImAll.drop {H : Hp} : ∀ {ds : List PyData} {vs : List V} (n : Nat), ImAll H ds vs → ImAll H (ds.drop n) (vs.drop n)
  | _, _, 0, h => h
  | [], _, n + 1, h => by simp only [ImAll] at h; subst h; simp only [List.drop_nil]; simp only [ImAll]
  | x :: ds, vs, n + 1, h => by
    simp only [ImAll] at h
    obtain ⟨u, r, rfl, h1, h2⟩ := h
    exact ImAll.drop n h2
theorem im_nil {H : Hp} : ImAll H [] [] := by simp only [ImAll]
theorem im_cons {H : Hp} {d : PyData} {ds : List PyData} {v : V} {vs : List V} (a : Im H d v) (b : ImAll H ds vs) : ImAll H (d :: ds) (v :: vs) := by
  simp only [ImAll]; exact ⟨v, vs, rfl, a, b⟩
theorem im_tup {H : Hp} {ds : List PyData} {xs : List V} {a : Addr} (h : H a = some (.tup xs)) (i : ImAll H ds xs) : Im H (.tuple ds) (.ref a) := by
  simp only [Im]; exact ⟨a, xs, rfl, h, i⟩
theorem im_tupNew {H : Hp} {ds : List PyData} {xs : List V} {a : Addr} (h : H a = none) (i : ImAll H ds xs) : Im (upd H a (.tup xs)) (.tuple ds) (.ref a) :=
  im_tup upd_same (ImAll.mono (Tk.new h) _ _ i)
theorem im_int {H : Hp} {i : Int} : Im H (.int i) (.int i) := by simp only [Im]
theorem im_str {H : Hp} {x : Str} : Im H (.str x) (.str x) := by simp only [Im]
theorem im_bool {H : Hp} {b : Bool} : Im H (.bool b) (.bl b) := by simp only [Im]
theorem im_non {H : Hp} : Im H .none .non := by simp only [Im]
/-! ### data of bounded nesting, of plain kinds (no bools: they equal ints) -/
mutual
def pl : Nat → PyData → Bool
  | _, .none => true
  | _, .int _ => true
  | _, .str x => PyData.strOk x
  | 0, .tuple _ => false
  | n + 1, .tuple ds => plAll n ds
  | 0, .list _ => false
  | n + 1, .list ds => plAll n ds
  | _, .bool _ => false
  | _, .dict _ => false
def plAll : Nat → List PyData → Bool
  | _, [] => true
  | n, d :: ds => pl n d && plAll n ds
end
theorem plAll_iff {n : Nat} : ∀ {ds : List PyData}, plAll n ds = true ↔ ∀ d ∈ ds, pl n d = true
  | [] => by simp [plAll]
  | d :: ds => by simp only [plAll, Bool.and_eq_true, plAll_iff (ds := ds)]; simp
mutual
theorem pl_lay : ∀ (n : Nat) (d : PyData), pl n d = true → d.canLay0 = true ∧ d.depth ≤ n
  | n, .none, _ => by simp [PyData.canLay0, PyData.depth]
  | n, .int _, _ => by simp [PyData.canLay0, PyData.depth]
  | n, .str x, h => by simp only [pl] at h; simp [PyData.canLay0, PyData.depth, h]
  | 0, .tuple _, h => by simp [pl] at h
  | n + 1, .tuple ds, h => by
    simp only [pl] at h
    have := pl_layAll n ds h
    simp only [PyData.canLay0, PyData.depth]; exact ⟨this.1, by omega⟩
  | 0, .list _, h => by simp [pl] at h
  | n + 1, .list ds, h => by
    simp only [pl] at h
    have := pl_layAll n ds h
    simp only [PyData.canLay0, PyData.depth]; exact ⟨this.1, by omega⟩
  | _, .bool _, h => by simp [pl] at h
  | _, .dict _, h => by simp [pl] at h
theorem pl_layAll : ∀ (n : Nat) (ds : List PyData), plAll n ds = true → PyData.canLayAll0 ds = true ∧ PyData.depthAll ds ≤ n
  | n, [], _ => by simp [PyData.canLayAll0, PyData.depthAll]
  | n, d :: ds, h => by
    simp only [plAll, Bool.and_eq_true] at h
    have h1 := pl_lay n d h.1
    have h2 := pl_layAll n ds h.2
    simp only [PyData.canLayAll0, PyData.depthAll, h1.1, h2.1, Bool.and_self, true_and]; omega
end
theorem pl_shaped {n : Nat} {d : PyData} (h : pl n d = true) (hn : n ≤ 64 := by decide) : SeqAt.shaped d = true := by
  have := pl_lay n d h
  show (d.canLay0 && decide (d.depth ≤ 64)) = true
  rw [this.1, Bool.true_and]; exact decide_eq_true (by omega)
mutual
theorem pl_eqv : ∀ (n m : Nat) (d e : PyData), pl n d = true → pl m e = true → (PyData.eqv d e = true ↔ d = e)
  | n, m, .none, e, h, g => by cases e <;> simp_all [PyData.eqv, pl]
  | n, m, .int i, e, h, g => by cases e <;> simp_all [PyData.eqv, pl]
  | n, m, .str x, e, h, g => by cases e <;> simp_all [PyData.eqv, pl]
  | 0, m, .tuple _, e, h, g => by simp [pl] at h
  | n + 1, m, .tuple ds, e, h, g => by
    cases e with
    | tuple es =>
      cases m with
      | zero => simp [pl] at g
      | succ m =>
        simp only [pl] at h g
        simp only [PyData.eqv, PyData.tuple.injEq]
        exact pl_eqvAll n m ds es h g
    | _ => simp_all [PyData.eqv, pl]
  | 0, m, .list _, e, h, g => by simp [pl] at h
  | n + 1, m, .list ds, e, h, g => by
    cases e with
    | list es =>
      cases m with
      | zero => simp [pl] at g
      | succ m =>
        simp only [pl] at h g
        simp only [PyData.eqv, PyData.list.injEq]
        exact pl_eqvAll n m ds es h g
    | _ => simp_all [PyData.eqv, pl]
  | _, m, .bool _, e, h, g => by simp [pl] at h
  | _, m, .dict _, e, h, g => by simp [pl] at h
theorem pl_eqvAll : ∀ (n m : Nat) (ds es : List PyData), plAll n ds = true → plAll m es = true → (PyData.eqvAll ds es = true ↔ ds = es)
  | n, m, [], es, h, g => by cases es <;> simp [PyData.eqvAll]
  | n, m, d :: ds, es, h, g => by
    cases es with
    | nil => simp [PyData.eqvAll]
    | cons e es =>
      simp only [plAll, Bool.and_eq_true] at h g
      simp only [PyData.eqvAll, Bool.and_eq_true, List.cons.injEq]
      rw [pl_eqv n m d e h.1 g.1, pl_eqvAll n m ds es h.2 g.2]
end
noncomputable instance : DecidableEq PyData := fun a b => Classical.propDecidable (a = b)
theorem pl_eqv_dec {n m : Nat} {d e : PyData} (h : pl n d = true) (g : pl m e = true) : PyData.eqv d e = decide (d = e) := by
  rw [Bool.eq_iff_iff, decide_eq_true_eq]; exact pl_eqv n m d e h g
/-! ### x in t, t a tuple of data of any depth -/
section
variable {X : Cx}
def rInDT (K : PySem.W.Frag) : R2 := fun x y H Q => ∃ d ds, Dp K H x d ∧ Dp K H y (.tuple ds) ∧ SeqAt.shaped d = true ∧ SeqAt.shaped (.tuple ds) = true ∧ Q (.bl (ds.any fun z => PyData.eqv z d)) H
theorem op_inT (hu : X.A.units + 65 < cLine) : OpR X (compareOp .In) (rInDT X.K) := by
  intro pins s σ H x y v u Q I rx ry h
  obtain ⟨d, ds, hd, he, sd, se, q⟩ := h
  obtain ⟨as, r1⟩ := Dp.reads I d x v hd rx
  obtain ⟨bs, r2⟩ := Dp.reads I (.tuple ds) y u he ry
  exact SeqAt.in_tuple_reads r2 r1 (SeqAt.canLay_of_shaped se) (SeqAt.canLay_of_shaped sd) (PyProof.Rows.room_in_shaped sd hu) ⟨.bl _, H, I, rfl, q⟩
end
/-! ### rules over what is tracked alone -/
section
variable {X : Cx}
def rIxLH : R2 := fun x y H Q => ∃ p xs i v, x = .ref p ∧ y = .int i ∧ H p = some (.lst xs) ∧ atI xs i = some v ∧ Q v H
def rIxTH : R2 := fun x y H Q => ∃ p xs i v, x = .ref p ∧ y = .int i ∧ H p = some (.tup xs) ∧ atI xs i = some v ∧ Q v H
theorem ix_listH : IxR X rIxLH := fun value slice pins s σ H x y v u Q I rx ry ⟨p, xs, i, w, h1, h2, h3, h4, h5⟩ hs => ix_list value slice pins s σ H x y v u Q I rx ry ⟨p, xs, i, w, h1, h2, SqL.of h3, h4, h5⟩ hs
theorem ix_tupH : IxR X rIxTH := fun value slice pins s σ H x y v u Q I rx ry ⟨p, xs, i, w, h1, h2, h3, h4, h5⟩ hs => ix_tup value slice pins s σ H x y v u Q I rx ry ⟨p, xs, i, w, h1, h2, SqT.of h3, h4, h5⟩ hs
end
theorem atI0 {α : Type} {x : α} {xs : List α} : atI (x :: xs) 0 = some x := atI_nat (j := 0) rfl
theorem atI1 {α : Type} {x y : α} {xs : List α} : atI (x :: y :: xs) 1 = some y := atI_nat (j := 1) rfl
theorem atI2 {α : Type} {x y z : α} {xs : List α} : atI (x :: y :: z :: xs) 2 = some z := atI_nat (j := 2) rfl
theorem atI3 {α : Type} {x y z t : α} {xs : List α} : atI (x :: y :: z :: t :: xs) 3 = some t := atI_nat (j := 3) rfl
theorem ixN20 : ixN 2 0 = some 0 := by decide
theorem ixN21 : ixN 2 1 = some 1 := by decide
theorem atI_mem {α : Type} {xs : List α} {i : Int} (h0 : 0 ≤ i) (h1 : i < xs.length) : ∃ w, atI xs i = some w ∧ w ∈ xs := by
  obtain ⟨n, rfl⟩ := Int.eq_ofNat_of_zero_le h0
  have hn : n < xs.length := by omega
  exact ⟨xs[n], atI_nat (by simp [hn]), List.getElem_mem hn⟩
theorem tyL {K : PySem.W.Frag} {H : Hp} {p : Addr} {xs : List V} (h : H p = some (.lst xs)) : tyV K "list" (.ref p) H := .inl ⟨rfl, xs, SqL.of h⟩
/-! ### texts -/
theorem join_all {P : Nat → Prop} : ∀ (ys : List Str), (∀ y ∈ ys, ∀ c ∈ y.cps.toList, P c) → ∀ c ∈ (Txt.join ⟨#[]⟩ ys).cps.toList, P c := by
  have h : ∀ (ys : List Str), (∀ y ∈ ys, ∀ c ∈ y.cps.toList, P c) → ∀ c ∈ (Str.join ⟨#[]⟩ ys).cps.toList, P c := by
    intro ys
    induction ys with
    | nil => intro _ c hc; exact absurd hc (by simp [Str.join, Str.empty])
    | cons x r ih =>
      intro hy c hc
      cases r with
      | nil => exact hy x (by simp) c hc
      | cons y r =>
        have e : (Str.join ⟨#[]⟩ (x :: y :: r)).cps.toList = x.cps.toList ++ (Str.join ⟨#[]⟩ (y :: r)).cps.toList := by
          show ((x.cps ++ #[]) ++ (Str.join ⟨#[]⟩ (y :: r)).cps).toList = _
          simp
        rw [e] at hc
        rcases List.mem_append.mp hc with hc | hc
        · exact hy x (by simp) c hc
        · exact ih (fun z hz => hy z (List.mem_cons_of_mem _ hz)) c hc
  intro ys hy
  have e : Txt.join ⟨#[]⟩ ys = Str.join ⟨#[]⟩ ys := StrLaws.glued_eq_join _ _
  rw [e]; exact h ys hy
theorem join_len : ∀ (ys : List Str), (Txt.join ⟨#[]⟩ ys).length = (ys.map (·.length)).sum := by
  have h : ∀ (ys : List Str), (Str.join ⟨#[]⟩ ys).length = (ys.map (·.length)).sum := by
    intro ys
    induction ys with
    | nil => rfl
    | cons x r ih =>
      cases r with
      | nil => show x.length = _; simp
      | cons y r =>
        have e : (Str.join ⟨#[]⟩ (x :: y :: r)).length = x.length + (Str.join ⟨#[]⟩ (y :: r)).length := by
          show ((x.cps ++ #[]) ++ (Str.join ⟨#[]⟩ (y :: r)).cps).size = x.cps.size + (Str.join ⟨#[]⟩ (y :: r)).cps.size
          simp
        rw [e, ih]; simp
  intro ys
  have e : Txt.join ⟨#[]⟩ ys = Str.join ⟨#[]⟩ ys := StrLaws.glued_eq_join _ _
  rw [e]; exact h ys
/-- a name: 1 to 12 signs a to z -/
def NameD (x : Str) : Prop := 1 ≤ x.length ∧ x.length ≤ 12 ∧ ∀ c ∈ x.cps.toList, 97 ≤ c ∧ c ≤ 122
theorem NameD.ok {x : Str} (h : NameD x) : PyData.strOk x = true := by
  unfold PyData.strOk
  rw [Array.all_eq_true_iff_forall_mem]
  intro c hc
  have := h.2.2 c (by simpa using hc)
  exact decide_eq_true (by omega)
theorem nameD_by {x : Str} (h : (decide (1 ≤ x.length) && decide (x.length ≤ 12) && x.cps.toList.all fun c => decide (97 ≤ c) && decide (c ≤ 122)) = true) : NameD x := by
  simp only [Bool.and_eq_true, decide_eq_true_eq, List.all_eq_true] at h
  exact ⟨h.1.1, h.1.2, fun c hc => h.2 c hc⟩
/-! ### loops: the reading's own words, folded -/
def Loop (J : It) (g : TG) (tb : TS) (D : Ends) (σ : St) (H : Hp) : Prop := ∃ W : Nat → Nat → St → Hp → Prop, (∃ m, W 0 m σ H) ∧ ∀ i m σ H, W i m σ H →
  (J.stop i H ∧ D.nx σ H) ∨ (J.go i H ∧ ∃ N : St → Hp → Prop, (∀ σ' H', N σ' H' → ∃ m', m' < m ∧ W (i + 1) m' σ' H') ∧ ∀ x H', J.yld i H x H' → g x σ H' fun σ2 H2 => tb { D with nx := N, ct := N, bk := D.nx } σ2 H2)
theorem tFor_eq (wi : TI) (g : TG) (tb : TS) (D : Ends) (σ : St) (H : Hp) : tFor wi g tb D σ H = wi σ H (fun J H1 => Loop J g tb D σ H1) := rfl
theorem Loop.range {lo : Int} {n : Nat} {g : TG} {tb : TS} {D : Ends} {σ : St} {H : Hp} (Pv : Nat → St → Hp → Prop) (h0 : Pv 0 σ H)
    (hs : ∀ i σ H, i < n → Pv i σ H → g (.int (lo + i)) σ H fun σ2 H2 => tb { D with nx := Pv (i + 1), ct := Pv (i + 1), bk := D.nx } σ2 H2) (hd : ∀ σ H, Pv n σ H → D.nx σ H) : Loop (Itr lo n) g tb D σ H := for_range Pv h0 hs hd
theorem Loop.list {K : PySem.W.Frag} {a : Addr} {g : TG} {tb : TS} {D : Ends} {σ : St} {H : Hp} (xs : List V) (Pv : Nat → St → Hp → Prop) (h0 : Pv 0 σ H) (hl : ∀ i σ H, i ≤ xs.length → Pv i σ H → SqL K H a xs)
    (hs : ∀ i x σ H, xs[i]? = some x → Pv i σ H → g x σ H fun σ2 H2 => tb { D with nx := Pv (i + 1), ct := Pv (i + 1), bk := D.nx } σ2 H2) (hd : ∀ σ H, Pv xs.length σ H → D.nx σ H) : Loop (Itl K a) g tb D σ H := for_list Pv h0 hl hs hd
theorem Loop.tup {K : PySem.W.Frag} {a : Addr} {g : TG} {tb : TS} {D : Ends} {σ : St} {H : Hp} (xs : List V) (Pv : Nat → St → Hp → Prop) (h0 : Pv 0 σ H) (hl : ∀ i σ H, i ≤ xs.length → Pv i σ H → SqT K H a xs)
    (hs : ∀ i x σ H, xs[i]? = some x → Pv i σ H → g x σ H fun σ2 H2 => tb { D with nx := Pv (i + 1), ct := Pv (i + 1), bk := D.nx } σ2 H2) (hd : ∀ σ H, Pv xs.length σ H → D.nx σ H) : Loop (Itt K a) g tb D σ H := for_tup Pv h0 hl hs hd
def Lcl (J : It) (g : TG) (tt : TT) (te : TE) (vs : List Nat) (σ : St) (D : Addr) (H : Hp) (Q : Hp → Prop) : Prop := ∃ W : Nat → Nat → Hp → Prop, (∃ m, W 0 m (upd H D (.lst []))) ∧ ∀ i m H, W i m H →
  (J.stop i H ∧ Q H) ∨ (J.go i H ∧ ∃ Nx : Hp → Prop, (∀ H', Nx H' → ∃ m', m' < m ∧ W (i + 1) m' H') ∧ ∀ x H', J.yld i H x H' → g x (wipe σ vs) H' fun σ2 H2 => wipe σ2 vs = wipe σ vs ∧ tt σ2 H2 fun b H3 =>
    if b = true then te σ2 H3 fun y H4 => ∃ acc, H4 D = some (.lst acc) ∧ acc.length < sizeLine ∧ Nx (upd H4 D (.lst (acc ++ [y]))) else Nx H3)
theorem tLc_eq (wi : TI) (g : TG) (tt : TT) (te : TE) (vs : List Nat) (σ : St) (H : Hp) (Q : VK) : tLc wi g tt te vs σ H Q = wi σ H (fun J H1 => ∀ D, H1 D = none → Lcl J g tt te vs σ D H1 (fun H2 => Q (.ref D) H2)) := rfl
theorem Lcl.range {lo : Int} {n : Nat} {g : TG} {tt : TT} {te : TE} {vs : List Nat} {σ : St} {H1 : Hp} {D : Addr} {Qd : Hp → Prop} (Pv : Nat → Hp → Prop) (h0 : Pv 0 (upd H1 D (.lst [])))
    (hs : ∀ i H, i < n → Pv i H → g (.int (lo + i)) (wipe σ vs) H fun σ2 H2 => wipe σ2 vs = wipe σ vs ∧ tt σ2 H2 fun b H3 =>
      if b = true then te σ2 H3 fun y H4 => ∃ acc, H4 D = some (.lst acc) ∧ acc.length < sizeLine ∧ Pv (i + 1) (upd H4 D (.lst (acc ++ [y]))) else Pv (i + 1) H3) (hd : ∀ H, Pv n H → Qd H) : Lcl (Itr lo n) g tt te vs σ D H1 Qd := lc_range Pv h0 hs hd
theorem Lcl.list {K : PySem.W.Frag} {a : Addr} {g : TG} {tt : TT} {te : TE} {vs : List Nat} {σ : St} {H1 : Hp} {D : Addr} {Qd : Hp → Prop} (xs : List V) (Pv : Nat → Hp → Prop) (h0 : Pv 0 (upd H1 D (.lst []))) (hl : ∀ i H, i ≤ xs.length → Pv i H → SqL K H a xs)
    (hs : ∀ i x H, xs[i]? = some x → Pv i H → g x (wipe σ vs) H fun σ2 H2 => wipe σ2 vs = wipe σ vs ∧ tt σ2 H2 fun b H3 =>
      if b = true then te σ2 H3 fun y H4 => ∃ acc, H4 D = some (.lst acc) ∧ acc.length < sizeLine ∧ Pv (i + 1) (upd H4 D (.lst (acc ++ [y]))) else Pv (i + 1) H3) (hd : ∀ H, Pv xs.length H → Qd H) : Lcl (Itl K a) g tt te vs σ D H1 Qd := lc_list Pv h0 hl hs hd
theorem Lcl.tup {K : PySem.W.Frag} {a : Addr} {g : TG} {tt : TT} {te : TE} {vs : List Nat} {σ : St} {H1 : Hp} {D : Addr} {Qd : Hp → Prop} (xs : List V) (Pv : Nat → Hp → Prop) (h0 : Pv 0 (upd H1 D (.lst []))) (hl : ∀ i H, i ≤ xs.length → Pv i H → SqT K H a xs)
    (hs : ∀ i x H, xs[i]? = some x → Pv i H → g x (wipe σ vs) H fun σ2 H2 => wipe σ2 vs = wipe σ vs ∧ tt σ2 H2 fun b H3 =>
      if b = true then te σ2 H3 fun y H4 => ∃ acc, H4 D = some (.lst acc) ∧ acc.length < sizeLine ∧ Pv (i + 1) (upd H4 D (.lst (acc ++ [y]))) else Pv (i + 1) H3) (hd : ∀ H, Pv xs.length H → Qd H) : Lcl (Itt K a) g tt te vs σ D H1 Qd := lc_tup Pv h0 hl hs hd
/-! ### the drawn stream of a law -/
/-- at p a list of two ints -/
def St2 (H : Hp) (p : Addr) : Prop := ∃ d r : Int, H p = some (.lst [.int d, .int r])
/-- a generator ran: the stream at p may have gone on, all else is as it was, new things may stand -/
structure Gn (p : Addr) (H H' : Hp) : Prop where
  st0 : St2 H p
  st : St2 H' p
  but : ∀ b o, H b = some o → b ≠ p → H' b = some o
theorem Gn.tk {p : Addr} {H H' : Hp} (g : Gn p H H') : Tk H H' := fun b xs e => by
  obtain ⟨d, r, h⟩ := g.st0
  exact g.but b _ e (ne_of e h (by intro z; cases z))
theorem Gn.refl {p : Addr} {H : Hp} (h : St2 H p) : Gn p H H := ⟨h, h, fun _ _ e _ => e⟩
theorem Gn.trans {p : Addr} {H H1 H2 : Hp} (a : Gn p H H1) (b : Gn p H1 H2) : Gn p H H2 := ⟨a.st0, b.st, fun c o e n => b.but c o (a.but c o e n) n⟩
theorem St2.new {p q : Addr} {H : Hp} {o : HO} (h : St2 H p) (hq : H q = none) : St2 (upd H q o) p := by
  obtain ⟨d, r, e⟩ := h; exact ⟨d, r, get_new hq e⟩
theorem St2.ne {p q : Addr} {H : Hp} {o : HO} (h : St2 H p) (hq : q ≠ p) : St2 (upd H q o) p := by
  obtain ⟨d, r, e⟩ := h; exact ⟨d, r, get_ne hq.symm e⟩
theorem St2.nn {p q : Addr} {H : Hp} (h : St2 H p) (hq : H q = none) : q ≠ p := by
  obtain ⟨d, r, e⟩ := h; exact (ne_of_none e hq).symm
theorem Gn.new {p q : Addr} {H H1 : Hp} {o : HO} (a : Gn p H H1) (hq : H1 q = none) : Gn p H (upd H1 q o) :=
  ⟨a.st0, a.st.new hq, fun c x e n => get_new hq (a.but c x e n)⟩
/-- a list that the generator made is changed -/
theorem Gn.put {p q : Addr} {H H1 : Hp} {o : HO} (a : Gn p H H1) (hq : H q = none) (hn : q ≠ p) : Gn p H (upd H1 q o) :=
  ⟨a.st0, a.st.ne hn, fun c x e n => get_ne (ne_of_none e hq) (a.but c x e n)⟩
theorem Gn.none {p q : Addr} {H H' : Hp} (g : Gn p H H') (h : H' q = none) : H q = none := by
  cases e : H q with
  | none => rfl
  | some o =>
    by_cases hq : q = p
    · subst hq; obtain ⟨d, r, z⟩ := g.st; rw [h] at z; cases z
    · rw [g.but q o e hq] at h; cases h
theorem Gn.im {p : Addr} {H H' : Hp} (g : Gn p H H') {d : PyData} {v : V} (h : Im H d v) : Im H' d v := Im.mono g.tk d v h
theorem Gn.upd {p : Addr} {H : Hp} {d r : Int} (h : St2 H p) : Gn p H (upd H p (.lst [.int d, .int r])) := ⟨h, ⟨d, r, upd_same⟩, fun b o e n => get_ne n e⟩
theorem imNew {H : Hp} {q : Addr} {o : HO} {d : PyData} {v : V} (hq : H q = none) (h : Im H d v) : Im (upd H q o) d v := Im.mono (Tk.new hq) d v h
theorem cmulR {i j : Int} (h : (decide (-(2 ^ 64) < j) && decide (j < 2 ^ 64)) = true) : CMul i j := by
  simp only [Bool.and_eq_true, decide_eq_true_eq] at h; exact .inr h
theorem cmulL {i j : Int} (h : -(2 ^ 64) < i ∧ i < 2 ^ 64) : CMul i j := .inl h
theorem abc26 : (Str.ofString "abcdefghijklmnopqrstuvwxyz").cps.toList = (List.range 26).map (97 + ·) := by decide +kernel
theorem abc26_len : (Str.ofString "abcdefghijklmnopqrstuvwxyz").length = 26 := by decide +kernel
theorem abc26_at {v : Int} (h0 : 0 ≤ v) (h1 : v < 26) : ∃ c, atI (Str.ofString "abcdefghijklmnopqrstuvwxyz").cps.toList v = some c ∧ 97 ≤ c ∧ c ≤ 122 := by
  rw [abc26]
  obtain ⟨c, hc, hm⟩ := atI_mem (xs := (List.range 26).map (97 + ·)) h0 (by simpa using h1)
  refine ⟨c, hc, ?_⟩
  simp only [List.mem_map, List.mem_range] at hm
  omega
theorem empty_str : Str.ofString "" = ⟨#[]⟩ := by decide +kernel
theorem sum_ones : ∀ {ys : List Str}, (∀ y ∈ ys, y.length = 1) → (ys.map (·.length)).sum = ys.length
  | [], _ => rfl
  | y :: ys, h => by
    have h1 := h y (by simp)
    have h2 := sum_ones (ys := ys) fun z hz => h z (List.mem_cons_of_mem _ hz)
    simp only [List.map_cons, List.sum_cons, List.length_cons, h1, h2]; omega
theorem Gn.at {p q : Addr} {H H' : Hp} {o : HO} (g : Gn p H H') (h : H q = some o) (hn : q ≠ p) : H' q = some o := g.but q o h hn

/-! ### rules whose new thing may be an old one -/
section
variable {X : Cx}
theorem cutV_whole {xs : List V} {lo hi : Option Int} (h : HT.sIx xs.length 0 lo = 0 ∧ HT.sIx xs.length xs.length hi = xs.length) : cutV xs lo hi = xs := by
  unfold cutV; rw [h.1, h.2]; simp
theorem cutV_to (xs : List V) (k : Nat) : cutV xs none (some (k : Int)) = xs.take k := by
  unfold cutV
  rw [HT.sIx_none, HT.sIx_nat, List.drop_zero, Nat.sub_zero]
  by_cases h : k ≤ xs.length
  · rw [Nat.min_eq_left h]
  · rw [Nat.min_eq_right (by omega), List.take_length, List.take_of_length_le (by omega)]
theorem cutV_from (xs : List V) (k : Nat) : cutV xs (some (k : Int)) none = xs.drop k := by
  unfold cutV
  rw [HT.sIx_none, HT.sIx_nat]
  by_cases h : k ≤ xs.length
  · rw [Nat.min_eq_left h, List.take_of_length_le (by rw [List.length_drop]; omega)]
  · rw [Nat.min_eq_right (by omega), List.drop_length, List.drop_of_length_le (by omega)]; simp
def rSlTS : V → Option Int → Option Int → Hp → VK → Prop := fun x lo hi H Q => ∃ a xs, x = .ref a ∧ H a = some (.tup xs) ∧ ∀ p H', Same H H' → H' p = some (.tup (cutV xs lo hi)) → Q (.ref p) H'
theorem sl_tupS : SlR X rSlTS := fun pins s σ H x v vl vu lo hi sl Q I rx hs pl pu ⟨a, xs, h1, h2, h3⟩ =>
  sl_tupA pins s σ H x v vl vu lo hi sl Q I rx hs pl pu ⟨a, xs, h1, SqT.of h2, fun hw => h3 a H (Same.refl H) (by rw [cutV_whole hw]; exact h2), fun _ p hp => h3 p _ (same_new hp) upd_same⟩
def rCatS : R2 := fun x y H Q => ∃ a b xs ys, x = .ref a ∧ y = .ref b ∧ H a = some (.tup xs) ∧ H b = some (.tup ys) ∧ xs.length + ys.length ≤ sizeLine ∧ ∀ p H', Same H H' → H' p = some (.tup (xs ++ ys)) → Q (.ref p) H'
theorem op_catS : OpR X (binaryOp .Add) rCatS := fun pins s σ H x y v u Q I rx ry ⟨a, b, xs, ys, h1, h2, h3, h4, h5, h6⟩ =>
  op_catA pins s σ H x y v u Q I rx ry ⟨a, b, xs, ys, h1, h2, SqT.of h3, SqT.of h4, h5, fun e => h6 b H (Same.refl H) (by rw [e]; exact h4), fun _ e => h6 a H (Same.refl H) (by rw [e, List.append_nil]; exact h3), fun _ _ p hp => h6 p _ (same_new hp) upd_same⟩
def rTupS : List V → Hp → VK → Prop := fun xs H Q => ∃ p ys, xs = [.ref p] ∧ (H p = some (.lst ys) ∨ H p = some (.tup ys)) ∧ ∀ l H', Same H H' → H' l = some (.tup ys) → Q (.ref l) H'
theorem call_tupS : CallR X (.type "tuple") rTupS := fun pins s σ H xs us Q I r ⟨p, ys, h1, h2, h3⟩ =>
  call_tuple_of pins s σ H xs us Q I r ⟨p, ys, h1, h2.elim (fun h => .inl ⟨SqL.of h, fun l hl => h3 l _ (same_new hl) upd_same⟩) fun h => .inr ⟨SqT.of h, h3 p H (Same.refl H) h⟩⟩
def tyO : Option HO → Option String
  | some (.lst _) => some "list"
  | some (.tup _) => some "tuple"
  | some (.dK _) => some "dict"
  | some (.dT _) => some "dict"
  | _ => none
/-- the built-in type's name of a value -/
def tyS (H : Hp) : V → Option String
  | .non => some "NoneType"
  | .bl _ => some "bool"
  | .int _ => some "int"
  | .str _ => some "str"
  | .ref a => tyO (H a)
  | _ => none
theorem tyS_non {H : Hp} : tyS H .non = some "NoneType" := rfl
theorem tyS_bl {H : Hp} {b : Bool} : tyS H (.bl b) = some "bool" := rfl
theorem tyS_int {H : Hp} {b : Int} : tyS H (.int b) = some "int" := rfl
theorem tyS_str {H : Hp} {b : Str} : tyS H (.str b) = some "str" := rfl
theorem tyS_ref {H : Hp} {a : Addr} : tyS H (.ref a) = tyO (H a) := rfl
theorem tyO_l {xs : List V} : tyO (some (.lst xs)) = some "list" := rfl
theorem tyO_t {xs : List V} : tyO (some (.tup xs)) = some "tuple" := rfl
theorem tyO_d {xs : List (Key × V)} : tyO (some (.dK xs)) = some "dict" := rfl
theorem tyO_dt {xs : List (List Key × V)} : tyO (some (.dT xs)) = some "dict" := rfl
theorem tyS_x {K : PySem.W.Frag} {H : Hp} {x : V} {t : String} (h : tyS H x = some t) : TyX K H x (.type t) := by
  cases x with
  | non => cases h; exact .base .non
  | bl b => cases h; exact .base (.bl b)
  | int i => cases h; exact .base (.int i)
  | str x => cases h; exact .base (.str x)
  | ref a =>
    rw [tyS_ref] at h
    cases e : H a with
    | none => rw [e] at h; cases h
    | some o =>
      rw [e] at h
      cases o with
      | lst xs => cases h; exact .base (.lst e)
      | tup xs => cases h; exact .base (.tup e)
      | dK kvs => cases h; exact .base (.dK e)
      | dT kvs => cases h; exact .base (.dT e)
      | _ => cases h
  | _ => cases h
def rIsiH : List V → Hp → VK → Prop := fun xs H Q => ∃ (x : V) (n t : String) (b : Bool), xs = [x, .ty n] ∧ tyS H x = some t ∧ kitB t n = some b ∧ Q (.bl b) H
theorem call_isiH : CallR X (.builtin "isinstance") rIsiH := fun pins s σ H xs us Q I r ⟨x, n, t, b, h1, h2, h3, h4⟩ =>
  call_isi pins s σ H xs us Q I r ⟨x, .ty n, .type t, .type n, b, h1, .ty n, tyS_x h2, kit_ty h3, h4⟩
end
theorem kit_ll : kitB "list" "list" = some true := by decide +kernel
theorem kit_tt : kitB "tuple" "tuple" = some true := by decide +kernel
theorem kit_bb : kitB "bool" "bool" = some true := by decide +kernel
theorem kit_ii : kitB "int" "int" = some true := by decide +kernel
theorem kit_ib : kitB "int" "bool" = some false := by decide +kernel
theorem kit_bi : kitB "bool" "int" = some true := by decide +kernel
theorem kit_nt : kitB "NoneType" "tuple" = some false := by decide +kernel
theorem kit_it : kitB "int" "tuple" = some false := by decide +kernel
theorem kit_st : kitB "str" "tuple" = some false := by decide +kernel
theorem kit_bt : kitB "bool" "tuple" = some false := by decide +kernel
theorem kit_lt : kitB "list" "tuple" = some false := by decide +kernel
theorem kit_dt : kitB "dict" "tuple" = some false := by decide +kernel
theorem kit_ni : kitB "NoneType" "int" = some false := by decide +kernel
theorem kit_si : kitB "str" "int" = some false := by decide +kernel
theorem kit_ti : kitB "tuple" "int" = some false := by decide +kernel
theorem kit_li : kitB "list" "int" = some false := by decide +kernel
theorem kit_di : kitB "dict" "int" = some false := by decide +kernel
theorem kit_nb : kitB "NoneType" "bool" = some false := by decide +kernel
theorem kit_ns : kitB "NoneType" "str" = some false := by decide +kernel
theorem kit_is : kitB "int" "str" = some false := by decide +kernel
theorem kit_bs : kitB "bool" "str" = some false := by decide +kernel
theorem kit_ss : kitB "str" "str" = some true := by decide +kernel
theorem kit_ts : kitB "tuple" "str" = some false := by decide +kernel
theorem kit_ls : kitB "list" "str" = some false := by decide +kernel
theorem kit_ds : kitB "dict" "str" = some false := by decide +kernel
theorem kit_dd : kitB "dict" "dict" = some true := by decide +kernel
theorem Gn.same {p : Addr} {H H1 H2 : Hp} (g : Gn p H H1) (s : Same H1 H2) : Gn p H H2 :=
  ⟨g.st0, by obtain ⟨d, r, h⟩ := g.st; exact ⟨d, r, s _ _ h⟩, fun b o e n => s _ _ (g.but b o e n)⟩
theorem St2.same {p : Addr} {H1 H2 : Hp} (g : St2 H1 p) (s : Same H1 H2) : St2 H2 p := by obtain ⟨d, r, h⟩ := g; exact ⟨d, r, s _ _ h⟩
theorem Same.im {H H' : Hp} (s : Same H H') {d : PyData} {v : V} (h : Im H d v) : Im H' d v := Im.mono (Same.tk s) d v h
theorem Same.ims {H H' : Hp} (s : Same H H') {d : List PyData} {v : List V} (h : ImAll H d v) : ImAll H' d v := ImAll.mono (Same.tk s) d v h
theorem Gn.ims {p : Addr} {H H' : Hp} (g : Gn p H H') {d : List PyData} {v : List V} (h : ImAll H d v) : ImAll H' d v := ImAll.mono g.tk d v h
theorem imsNew {H : Hp} {q : Addr} {o : HO} {d : List PyData} {v : List V} (hq : H q = none) (h : ImAll H d v) : ImAll (upd H q o) d v := ImAll.mono (Tk.new hq) d v h
theorem im_tupE {H : Hp} {ds : List PyData} {v : V} (h : Im H (.tuple ds) v) : ∃ a xs, v = .ref a ∧ H a = some (.tup xs) ∧ ImAll H ds xs := by simpa only [Im] using h
theorem imAll_mem {H : Hp} {P : PyData → Prop} {ds : List PyData} {vs : List V} {i : Nat} {v : V} (h : ImAll H ds vs) (hP : ∀ d ∈ ds, P d) (e : vs[i]? = some v) : ∃ d, ds[i]? = some d ∧ P d ∧ Im H d v := by
  obtain ⟨d, e1, e2⟩ := h.get e
  exact ⟨d, e1, hP d (List.mem_of_getElem? e1), e2⟩
theorem imPut {H : Hp} {q : Addr} {xs : List V} {o : HO} {d : PyData} {v : V} (hq : H q = some (.lst xs)) (h : Im H d v) : Im (upd H q o) d v := Im.mono (Tk.put hq) d v h
theorem imsPut {H : Hp} {q : Addr} {xs : List V} {o : HO} {d : List PyData} {v : List V} (hq : H q = some (.lst xs)) (h : ImAll H d v) : ImAll (upd H q o) d v := ImAll.mono (Tk.put hq) d v h
/-- a list of such data grows by one -/
theorem ims_app {H : Hp} {l : Addr} {vs : List V} {ds : List PyData} {v : V} {d : PyData} (hl : H l = some (.lst vs)) (h : ImAll H ds vs) (hd : Im H d v) : ImAll (upd H l (.lst (vs ++ [v]))) (ds ++ [d]) (vs ++ [v]) := imsPut hl (h.snoc hd)
theorem all_snoc {α : Type} {P : α → Prop} {xs : List α} {x : α} (h : ∀ y ∈ xs, P y) (hx : P x) : ∀ y ∈ xs ++ [x], P y := by
  intro y hy
  rcases List.mem_append.mp hy with hy | hy
  · exact h y hy
  · rw [List.mem_singleton] at hy; subst hy; exact hx
section
variable {X : Cx} {K : PySem.W.Frag}
theorem op_eqDK (hK : X.K = K) (hu : X.A.units + 64 < cLine) : OpR X (compareOp .Eq) (rEqD K) := by subst hK; exact op_eqD hu
theorem op_neDK (hK : X.K = K) (hu : X.A.units + 64 < cLine) : OpR X (compareOp .NotEq) (rNeD K) := by subst hK; exact op_neD hu
theorem op_inDK (hK : X.K = K) (hu : X.A.units + 65 < cLine) : OpR X (compareOp .In) (rInD K) := by subst hK; exact op_inD hu
theorem op_notInDK (hK : X.K = K) (hu : X.A.units + 65 < cLine) : OpR X (compareOp .NotIn) (rNotInD K) := by subst hK; exact op_notInD hu
theorem op_inTK (hK : X.K = K) (hu : X.A.units + 65 < cLine) : OpR X (compareOp .In) (rInDT K) := by subst hK; exact op_inT hu
end
def lenO : Option HO → Option Nat
  | some (.lst xs) => some xs.length
  | some (.tup xs) => some xs.length
  | _ => none
def lenS (H : Hp) : V → Option Nat
  | .str y => if y.length ≤ sizeLine then some y.length else none
  | .ref p => lenO (H p)
  | _ => none
theorem lenO_l {xs : List V} : lenO (some (.lst xs)) = some xs.length := rfl
theorem lenO_t {xs : List V} : lenO (some (.tup xs)) = some xs.length := rfl
theorem lenS_ref {H : Hp} {p : Addr} : lenS H (.ref p) = lenO (H p) := rfl
theorem lenS_str {H : Hp} {y : Str} (h : y.length ≤ 16777216) : lenS H (.str y) = some y.length := by simp only [lenS]; rw [if_pos (by rw [sizeLine_eq]; exact h)]
theorem lenS_v {K : PySem.W.Frag} {H : Hp} {x : V} {n : Nat} (h : lenS H x = some n) : LenV K x H n := by
  cases x with
  | str y =>
    simp only [lenS] at h
    split at h
    · cases h; exact ⟨by assumption, rfl⟩
    · cases h
  | ref a =>
    rw [lenS_ref] at h
    cases e : H a with
    | none => rw [e] at h; cases h
    | some o =>
      rw [e] at h
      cases o with
      | lst xs => cases h; exact .inl ⟨xs, SqL.of e, rfl⟩
      | tup xs => cases h; exact .inr ⟨xs, SqT.of e, rfl⟩
      | _ => cases h
  | _ => cases h
section
variable {X : Cx}
def rLenS : List V → Hp → VK → Prop := fun xs H Q => ∃ (x : V) (n : Nat), xs = [x] ∧ lenS H x = some n ∧ Q (.int n) H
theorem call_lenS : CallR X (.builtin "len") rLenS := fun pins s σ H xs us Q I r ⟨x, n, h1, h2, h3⟩ => call_len pins s σ H xs us Q I r ⟨x, n, h1, lenS_v h2, h3⟩
end
theorem cutI {t u : TS} {D : Ends} {σ : St} {H : Hp} (Mid : St → Hp → Prop) (h1 : t { D with nx := Mid } σ H) (h2 : ∀ σ' H', Mid σ' H' → u D σ' H') : C8.tCut t u D σ H := ⟨Mid, h1, h2⟩
theorem upd_none {H : Hp} {p q : Addr} {o : HO} (h : upd H p o q = none) : q ≠ p ∧ H q = none := by
  by_cases e : q = p
  · subst e; rw [upd_same] at h; cases h
  · rw [upd_ne e] at h; exact ⟨e, h⟩
theorem imIns {H : Hp} {p C dx : Addr} {fs : List (Str × V)} {o : HO} {d : PyData} {v : V} (hp : H p = some (.ins C dx fs)) (h : Im H d v) : Im (upd H p o) d v := Im.mono (Tk.putI hp) d v h
theorem imsIns {H : Hp} {p C dx : Addr} {fs : List (Str × V)} {o : HO} {d : List PyData} {v : List V} (hp : H p = some (.ins C dx fs)) (h : ImAll H d v) : ImAll (upd H p o) d v := ImAll.mono (Tk.putI hp) d v h
theorem imDk {H : Hp} {p : Addr} {fs : List (Key × V)} {o : HO} {d : PyData} {v : V} (hp : H p = some (.dK fs)) (h : Im H d v) : Im (upd H p o) d v := Im.mono (Tk.putD hp) d v h
theorem imsDk {H : Hp} {p : Addr} {fs : List (Key × V)} {o : HO} {d : List PyData} {v : List V} (hp : H p = some (.dK fs)) (h : ImAll H d v) : ImAll (upd H p o) d v := ImAll.mono (Tk.putD hp) d v h
theorem ne_il {H : Hp} {p l C dx : Addr} {fs : List (Str × V)} {ws : List V} (hp : H p = some (.ins C dx fs)) (hl : H l = some (.lst ws)) : p ≠ l := ne_of hp hl (by intro z; cases z)
theorem ne_it {H : Hp} {p l C dx : Addr} {fs : List (Str × V)} {ws : List V} (hp : H p = some (.ins C dx fs)) (hl : H l = some (.tup ws)) : p ≠ l := ne_of hp hl (by intro z; cases z)
theorem ne_dl {H : Hp} {p l : Addr} {fs : List (Key × V)} {ws : List V} (hp : H p = some (.dK fs)) (hl : H l = some (.lst ws)) : p ≠ l := ne_of hp hl (by intro z; cases z)
theorem ne_id {H : Hp} {p l C dx : Addr} {fs : List (Str × V)} {ws : List (Key × V)} (hp : H p = some (.ins C dx fs)) (hl : H l = some (.dK ws)) : p ≠ l := ne_of hp hl (by intro z; cases z)
section
variable {X : Cx} {pos : Pos}
def gTupH (n : Nat) (t : TGs) : TG := fun v σ H Q => ∃ a xs, v = .ref a ∧ H a = some (.tup xs) ∧ xs.length = n ∧ t xs σ H Q
theorem pg_tupH {es : List Expr} {k : Nat} {t : TGs} (n : Nat) (hc : X.calm = true) (h : PGs X es t)
    (hn : (assignEach es X.env).length = n := by rfl) (hst : (assignEach es X.env).findIdx? (·.1) = none := by rfl) : PG X (.Tuple es k pos) (gTupH n t) :=
  ⟨fun pins s σ H v u Q I r ⟨a, xs, h1, h2, h3, h4⟩ => (pg_tup hc h hn hst).run pins s σ H v u Q I r ⟨a, xs, h1, SqT.of h2, h3, h4⟩⟩
def gUnlH (n : Nat) (t : TGs) : TG := fun v σ H Q => ∃ a xs, v = .ref a ∧ H a = some (.lst xs) ∧ xs.length = n ∧ t xs σ H Q
theorem pg_unlH {es : List Expr} {k : Nat} {t : TGs} (n : Nat) (hc : X.calm = true) (h : PGs X es t)
    (hn : (assignEach es X.env).length = n := by rfl) (hst : (assignEach es X.env).findIdx? (·.1) = none := by rfl) : PG X (.Tuple es k pos) (gUnlH n t) :=
  ⟨fun pins s σ H v u Q I r ⟨a, xs, h1, h2, h3, h4⟩ => (pg_unl hc h hn hst).run pins s σ H v u Q I r ⟨a, xs, h1, SqL.of h2, h3, h4⟩⟩
end
/-! ### the drawn data -/
def kD (h : Int) (n : Str) : PyData := .tuple [.int h, .str n]
def KeyD (d : PyData) : Prop := ∃ h n, d = kD h n ∧ 0 ≤ h ∧ h ≤ 1000000000000 ∧ NameD n
theorem KeyD.pl {d : PyData} (h : KeyD d) : pl 1 d = true := by
  obtain ⟨a, b, rfl, _, _, n⟩ := h
  simp [kD, G4.pl, plAll, n.ok]
/-- a step of a program -/
def StepD (d : PyData) : Prop := ∃ k, KeyD k ∧ ((∃ w, d = .tuple [.str w, k] ∧ (w = Str.ofString "read" ∨ w = Str.ofString "store")) ∨
  ∃ w i, d = .tuple [.str w, k, .int i] ∧ (w = Str.ofString "put" ∨ w = Str.ofString "add" ∨ w = Str.ofString "need") ∧ -1000000000000 ≤ i ∧ i ≤ 1000000000000)
theorem ok_words : PyData.strOk (Str.ofString "read") = true ∧ PyData.strOk (Str.ofString "store") = true ∧ PyData.strOk (Str.ofString "put") = true ∧ PyData.strOk (Str.ofString "add") = true ∧ PyData.strOk (Str.ofString "need") = true := by decide +kernel
theorem StepD.pl {d : PyData} (h : StepD d) : G4.pl 2 d = true := by
  obtain ⟨k, hk, h⟩ := h
  obtain ⟨a, b, rfl, _, _, n⟩ := hk
  obtain ⟨o1, o2, o3, o4, o5⟩ := ok_words
  rcases h with ⟨w, rfl, hw⟩ | ⟨w, i, rfl, hw, _⟩
  · rcases hw with rfl | rfl <;> simp [kD, G4.pl, plAll, n.ok, o1, o2]
  · rcases hw with rfl | rfl | rfl <;> simp [kD, G4.pl, plAll, n.ok, o3, o4, o5]
def stepKey : PyData → PyData
  | .tuple (_ :: k :: _) => k
  | _ => .none
theorem StepD.key {d : PyData} (h : StepD d) : KeyD (stepKey d) := by
  obtain ⟨k, hk, h⟩ := h
  rcases h with ⟨w, rfl, _⟩ | ⟨w, i, rfl, _⟩ <;> exact hk
/-- a step as it stands: its second place is its key -/
theorem StepD.at {H : Hp} {d : PyData} {v : V} (h : StepD d) (i : Im H d v) : ∃ a w k r, v = .ref a ∧ H a = some (.tup (w :: k :: r)) ∧ Im H (stepKey d) k := by
  obtain ⟨k, hk, h⟩ := h
  rcases h with ⟨w, rfl, _⟩ | ⟨w, j, rfl, _⟩
  · obtain ⟨a, xs, rfl, ha, hx⟩ := im_tupE i
    simp only [ImAll] at hx
    obtain ⟨v1, r1, rfl, _, v2, r2, rfl, h2, _⟩ := hx
    exact ⟨a, v1, v2, r2, rfl, ha, h2⟩
  · obtain ⟨a, xs, rfl, ha, hx⟩ := im_tupE i
    simp only [ImAll] at hx
    obtain ⟨v1, r1, rfl, _, v2, r2, rfl, h2, _⟩ := hx
    exact ⟨a, v1, v2, r2, rfl, ha, h2⟩
/-- the unlike keys in the order of their first use -/
noncomputable def keysOf (ds : List PyData) : List PyData := ds.foldl (fun acc d => if stepKey d ∈ acc then acc else acc ++ [stepKey d]) []
theorem keysOf_snoc (ds : List PyData) (d : PyData) : keysOf (ds ++ [d]) = if stepKey d ∈ keysOf ds then keysOf ds else keysOf ds ++ [stepKey d] := by
  unfold keysOf; rw [List.foldl_append]; rfl
theorem keysOf_mem : ∀ (n : Nat) (ds : List PyData), ds.length = n → ∀ k, k ∈ keysOf ds ↔ ∃ d ∈ ds, stepKey d = k
  | 0, ds, h, k => by
    have : ds = [] := List.length_eq_zero_iff.mp h
    subst this; simp [keysOf]
  | n + 1, ds, h, k => by
    obtain ⟨es, d, rfl⟩ : ∃ es d, ds = es ++ [d] := by
      rcases List.eq_nil_or_concat ds with e | ⟨es, d, e⟩
      · subst e; simp at h
      · exact ⟨es, d, by simpa using e⟩
    have ih := keysOf_mem n es (by simpa using h)
    rw [keysOf_snoc]
    by_cases hd : stepKey d ∈ keysOf es
    · rw [if_pos hd, ih k]
      have hd' := (ih _).mp hd
      constructor
      · rintro ⟨e, he, q⟩; exact ⟨e, by simp [he], q⟩
      · rintro ⟨e, he, q⟩
        rcases List.mem_append.mp he with he | he
        · exact ⟨e, he, q⟩
        · rw [List.mem_singleton] at he; subst he; rw [← q]; exact hd'
    · rw [if_neg hd, List.mem_append, ih k]
      constructor
      · rintro (⟨e, he, q⟩ | q)
        · exact ⟨e, by simp [he], q⟩
        · rw [List.mem_singleton] at q; exact ⟨d, by simp, q.symm⟩
      · rintro ⟨e, he, q⟩
        rcases List.mem_append.mp he with he | he
        · exact .inl ⟨e, he, q⟩
        · rw [List.mem_singleton] at he; subst he; exact .inr (by simp [q])
theorem keysOf_keys {ds : List PyData} (h : ∀ d ∈ ds, StepD d) : ∀ k ∈ keysOf ds, KeyD k := by
  intro k hk
  obtain ⟨d, hd, rfl⟩ := (keysOf_mem _ ds rfl k).mp hk
  exact (h d hd).key
theorem keysOf_len : ∀ (n : Nat) (ds : List PyData), ds.length = n → (keysOf ds).length ≤ n
  | 0, ds, h => by
    have : ds = [] := List.length_eq_zero_iff.mp h
    subst this; simp [keysOf]
  | n + 1, ds, h => by
    obtain ⟨es, d, rfl⟩ : ∃ es d, ds = es ++ [d] := by
      rcases List.eq_nil_or_concat ds with e | ⟨es, d, e⟩
      · subst e; simp at h
      · exact ⟨es, d, by simpa using e⟩
    have ih := keysOf_len n es (by simpa using h)
    rw [keysOf_snoc]
    split
    · omega
    · rw [List.length_append]; simp; omega
theorem any_mem {n m : Nat} {ds : List PyData} {k : PyData} (h : ∀ d ∈ ds, pl n d = true) (hk : pl m k = true) : (ds.any fun z => PyData.eqv z k) = decide (k ∈ ds) := by
  rw [Bool.eq_iff_iff, List.any_eq_true, decide_eq_true_eq]
  constructor
  · rintro ⟨z, hz, e⟩
    have := (pl_eqv _ _ _ _ (h z hz) hk).mp e
    subst this; exact hz
  · intro hz
    exact ⟨k, hz, (pl_eqv _ _ _ _ hk hk).mpr rfl⟩
theorem pl_list {n : Nat} {ds : List PyData} (h : ∀ d ∈ ds, pl n d = true) : pl (n + 1) (.list ds) = true := by
  simp only [pl]; exact plAll_iff.mpr h
theorem pl_tuple {n : Nat} {ds : List PyData} (h : ∀ d ∈ ds, pl n d = true) : pl (n + 1) (.tuple ds) = true := by
  simp only [pl]; exact plAll_iff.mpr h
/-- a word of three: one key, two kinds -/
theorem take_snoc {α : Type} {xs : List α} {i : Nat} {x : α} (h : xs[i]? = some x) : xs.take (i + 1) = xs.take i ++ [x] := by
  rw [List.take_add_one, h]; rfl
theorem ex_take {ds : List PyData} {k : PyData} {i : Nat} {d : PyData} (h : ds[i]? = some d) : (∃ e ∈ ds.take (i + 1), stepKey e = k) ↔ ((∃ e ∈ ds.take i, stepKey e = k) ∨ stepKey d = k) := by
  rw [take_snoc h]
  constructor
  · rintro ⟨e, he, q⟩
    rcases List.mem_append.mp he with he | he
    · exact .inl ⟨e, he, q⟩
    · rw [List.mem_singleton] at he; subst he; exact .inr q
  · rintro (⟨e, he, q⟩ | q)
    · exact ⟨e, List.mem_append_left _ he, q⟩
    · exact ⟨d, by simp, q⟩
/-! ### order of data: comparisons, sorted, min, remove (over the library's rules for data) -/
open PySem.W in
section
variable {X : Cx}
def rLtA (K : PySem.W.Frag) : R2 := fun x y H Q => ∃ d e, Dp K H x d ∧ Dp K H y e ∧ alike d e = true ∧ d ≠ .none ∧ d.depth ≤ 60 ∧ Q (.bl (dataLt d e)) H
def rGtA (K : PySem.W.Frag) : R2 := fun x y H Q => ∃ d e, Dp K H x d ∧ Dp K H y e ∧ alike d e = true ∧ d ≠ .none ∧ d.depth ≤ 60 ∧ Q (.bl (dataLt e d)) H
def rLeA (K : PySem.W.Frag) : R2 := fun x y H Q => ∃ d e, Dp K H x d ∧ Dp K H y e ∧ alike d e = true ∧ d ≠ .none ∧ d.depth ≤ 60 ∧ Q (.bl (!dataLt e d)) H
theorem op_gtA {K : PySem.W.Frag} (hK : X.K = K) (hu : X.A.units + 65 < cLine) : OpR X (compareOp .Gt) (rGtA K) := by
  subst hK
  intro pins s σ H x y v u Q I rx ry h
  obtain ⟨d, e, hd, he, ha, hn, hp, q⟩ := h
  obtain ⟨as, r1⟩ := Dp.reads I d x v hd rx
  obtain ⟨bs, r2⟩ := Dp.reads I e y u he ry
  refine gt_data r1 r2 ha hn ?_ ⟨.bl _, H, I, rfl, q⟩
  have := Nat.min_le_left d.depth e.depth
  omega
theorem op_ltA {K : PySem.W.Frag} (hK : X.K = K) (hu : X.A.units + 65 < cLine) : OpR X (compareOp .Lt) (rLtA K) := by
  subst hK
  intro pins s σ H x y v u Q I rx ry h
  obtain ⟨d, e, hd, he, ha, hn, hp, q⟩ := h
  obtain ⟨as, r1⟩ := Dp.reads I d x v hd rx
  obtain ⟨bs, r2⟩ := Dp.reads I e y u he ry
  refine lt_data r1 r2 ha hn ?_ ⟨.bl _, H, I, rfl, q⟩
  have := Nat.min_le_left d.depth e.depth
  omega
theorem op_leA {K : PySem.W.Frag} (hK : X.K = K) (hu : X.A.units + 65 < cLine) : OpR X (compareOp .LtE) (rLeA K) := by
  subst hK
  intro pins s σ H x y v u Q I rx ry h
  obtain ⟨d, e, hd, he, ha, hn, hp, q⟩ := h
  obtain ⟨as, r1⟩ := Dp.reads I d x v hd rx
  obtain ⟨bs, r2⟩ := Dp.reads I e y u he ry
  refine le_data r1 r2 ha hn ?_ ⟨.bl _, H, I, rfl, q⟩
  have := Nat.min_le_left d.depth e.depth
  omega
/-- values and data, side by side -/
theorem ims_each {H : Hp} : ∀ {ds : List PyData} {ys : List V} {us : List Value}, ImAll H ds ys → Vals ys us → EachIs (fun u (b : V × PyData) => RelV b.1 u ∧ Im H b.2 b.1) us (ys.zip ds)
  | [], ys, us, h, r => by
    simp only [ImAll] at h; subst h; cases r; exact .nil
  | d :: ds, ys, us, h, r => by
    simp only [ImAll] at h
    obtain ⟨v, t, rfl, h1, h2⟩ := h
    cases r with
    | cons r1 r2 => exact .cons ⟨r1, h1⟩ (ims_each h2 r2)
theorem each_vals {H : Hp} : ∀ {us : List Value} {bs : List (V × PyData)}, EachIs (fun u (b : V × PyData) => RelV b.1 u ∧ Im H b.2 b.1) us bs → Vals (bs.map (·.1)) us ∧ ImAll H (bs.map (·.2)) (bs.map (·.1))
  | _, _, .nil => ⟨.nil, im_nil⟩
  | _, _, .cons h t => by
    obtain ⟨a, b⟩ := each_vals t
    exact ⟨.cons h.1 a, im_cons h.2 b⟩
theorem zip_snd {α β : Type} : ∀ {xs : List α} {ys : List β}, xs.length = ys.length → (xs.zip ys).map (·.2) = ys
  | [], [], _ => rfl
  | x :: xs, y :: ys, h => by simp only [List.zip_cons_cons, List.map_cons]; rw [zip_snd (by simpa using h)]
  | [], _ :: _, h => by simp at h
  | _ :: _, [], h => by simp at h
def rSortD : List V → Hp → VK → Prop := fun vs H Q => ∃ (a : Addr) (ys : List V) (ds : List PyData), vs = [.ref a] ∧ H a = some (.lst ys) ∧ ImAll H ds ys ∧ AllAlike ds ∧ Sortable ds ∧ (∀ d ∈ ds, d.depth ≤ 60) ∧
  ∀ (p : Addr) (zs : List V) (H' : Hp), H p = none → Same H H' → (∀ b, b ≠ p → H' b = H b) → H' p = some (.lst zs) → ImAll H' (ds.mergeSort fun d e => !dataLt e d) zs → Q (.ref p) H'
theorem call_sortD (hu : X.A.units + 65 < cLine) : CallR X (.builtin "sorted") rSortD := by
  intro pins s σ H vs us Q I r h
  obtain ⟨a, ys, ds, rfl, ha, hi, hal, hk, hd, q⟩ := h
  obtain ⟨its, rv, hl, hz⟩ := I.list (SqL.of (K := X.K) ha)
  rw [Vals.ref1 r]
  have hlen := hi.len
  have e := ims_each hi rv
  have hsnd : (ys.zip ds).map (·.2) = ds := zip_snd hlen
  have er : EachIs (fun u (b : V × PyData) => ∃ as, Reads s.heap u b.2 as) its (ys.zip ds) := e.mono fun u b hb => Dp.reads I b.2 b.1 u (Im.dp _ _ hb.2) hb.1
  refine sorted_data (enc := fun b : V × PyData => b.2) hl.isList e er (by rw [hsnd]; exact hal) (by rw [hsnd]; exact hk) (by rw [List.length_zip]; omega) (fun b hb => ?_) fun out ho eo => ?_
  · have hm : b.2 ∈ ds := by rw [← hsnd]; exact List.mem_map_of_mem hb
    have := hd _ hm
    omega
  · obtain ⟨hv, him⟩ := each_vals eo
    obtain ⟨ep, he'⟩ := PyProof.Rows.sortedAll_at s.heap its out.toArray
    have hms : ((ys.zip ds).mergeSort (dataLe false fun b : V × PyData => b.2)).map (·.2) = ds.mergeSort fun d e => !dataLt e d :=
      (sort_maps (r := dataLe false fun b : V × PyData => b.2) (s := fun d e => !dataLt e d) (fun b : V × PyData => b.2) (l := ys.zip ds) (fun _ _ _ _ => rfl)).trans (by rw [hsnd])
    rw [hms] at him
    have hlz : (((ys.zip ds).mergeSort (dataLe false fun b : V × PyData => b.2)).map (·.1)).length ≤ sizeLine := by
      rw [List.length_map, List.length_mergeSort, List.length_zip]; omega
    have hf := I.hok.fresh (Nat.le_succ s.heap.objs.size)
    refine ⟨.ref _, upd H (s.heap.objs.size + 1) (.lst (((ys.zip ds).mergeSort (dataLe false fun b : V × PyData => b.2)).map (·.1))), I.laid (t' := s.toks) (fun _ _ => PyProof.Rows.sortedAll_old) (Nat.le_succ _) ⟨hlz, out, ep, hv, ?_⟩, rfl, q _ _ _ hf (same_new hf) (fun b hb => upd_ne hb) upd_same (imsNew hf him)⟩
    exact he'
def rMinD : List V → Hp → VK → Prop := fun vs H Q => ∃ (a : Addr) (ys : List V) (d : PyData) (ds : List PyData), vs = [.ref a] ∧ H a = some (.lst ys) ∧ ImAll H (d :: ds) ys ∧ AlikeAll (d :: ds) ∧ (∀ e ∈ d :: ds, e.depth ≤ 60) ∧
  ∀ v : V, v ∈ ys → Im H (minD d ds) v → Q v H
theorem depthAll_le {n : Nat} : ∀ {ds : List PyData}, (∀ d ∈ ds, d.depth ≤ n) → PyData.depthAll ds ≤ n
  | [], _ => by simp [PyData.depthAll]
  | d :: ds, h => by
    have h1 := h d (by simp)
    have h2 := depthAll_le (ds := ds) fun e he => h e (List.mem_cons_of_mem _ he)
    simp only [PyData.depthAll]; omega
theorem minD_mem (d : PyData) : ∀ ds : List PyData, minD d ds ∈ d :: ds := by
  intro ds
  unfold minD
  induction ds generalizing d with
  | nil => simp
  | cons e ds ih =>
    simp only [List.foldl_cons]
    have := ih (if dataLt e d = true then e else d)
    rcases List.mem_cons.mp this with h | h
    · rw [h]; split <;> simp
    · simp [h]
theorem call_minD (hc : X.calm = true) (hu : X.A.units + 65 < cLine) : CallR X (.builtin "min") rMinD := by
  intro pins s σ H vs us Q I r h
  obtain ⟨a, ys, d, ds, rfl, ha, hi, hal, hd, q⟩ := h
  obtain ⟨its, rv, hl, hz⟩ := I.list (SqL.of (K := X.K) ha)
  rw [Vals.ref1 r]
  obtain ⟨as, hr⟩ := Dp.readsAll I (d :: ds) ys its (ImAll.dp _ _ hi) rv
  have hda := depthAll_le hd
  refine min_list_data (vs := its.toArray) (I.ok.hd hc) hl.isList (by simpa using hr) hal (by omega) fun i v h' tk bs hv hm hk => ?_
  have hv' : its[i]? = some v := by simpa using hv
  have hl1 := rv.length
  have hi1 : i < ys.length := by rw [hl1]; exact (List.getElem?_eq_some_iff.mp hv').1
  have hy : ys[i]? = some ys[i] := by simp [hi1]
  obtain ⟨u, hu1, hu2⟩ := rv.get hy
  rw [hv'] at hu1
  cases hu1
  obtain ⟨e, he1, he2⟩ := hi.get hy
  obtain ⟨cs, hre⟩ := Dp.reads I e ys[i] v (Im.dp _ _ he2) hu2
  have hem : e ∈ d :: ds := List.mem_of_getElem? he1
  have heq : e = minD d ds := alike_unique _ _ _ _ _ (hal.1 e hem _ (minD_mem d ds)) (PyProof.Rows.Reads.keeps hk hre) hm
  refine ⟨ys[i], H, I.kept (t' := tk) hk, hu2, q _ (List.getElem_mem hi1) ?_⟩
  rw [← heq]; exact he2
theorem vals_erase : ∀ {xs : List V} {us : List Value}, Vals xs us → ∀ j, Vals (xs.eraseIdx j) (us.eraseIdx j)
  | _, _, .nil, _ => .nil
  | _, _, .cons _ t, 0 => t
  | _, _, .cons h t, j + 1 => .cons h (vals_erase t j)
def rRemD : V → List V → Hp → VK → Prop := fun x vs H Q => ∃ (l : Addr) (y : V) (ys : List V) (d : PyData) (ds : List PyData) (j : Nat), x = .ref l ∧ vs = [y] ∧ H l = some (.lst ys) ∧ ImAll H ds ys ∧ Im H d y ∧ PyData.plainAll ds = true ∧ d.plain = true ∧ d.depth ≤ 60 ∧
  SeqAt.dataPlace ds d = some j ∧ Q .non (upd H l (.lst (ys.eraseIdx j)))
theorem mt_remD (hu : X.A.units + 65 < cLine) : MtR X "list.remove" rRemD := by
  intro pins s σ H x vs v us Q I rx rv h
  obtain ⟨l, y, ys, d, ds, j, rfl, rfl, hl, hi, hy, hp1, hp2, hp3, hj, q⟩ := h
  cases rx
  obtain ⟨u, rfl, ru⟩ := vals1 rv
  obtain ⟨z, its, n, r, hL, e⟩ := I.lstM hl
  obtain ⟨as, hr⟩ := Dp.readsAll I ds ys its (ImAll.dp _ _ hi) r
  obtain ⟨bs, hx⟩ := Dp.reads I d y u (Im.dp _ _ hy) ru
  have hlen := r.length
  refine SeqAt.remove_list_data (vs := its.toArray) (j := j) ⟨_, e, rfl, _, rfl⟩ (by simpa using hr) hx hp1 hp2 ?_ hj (by rw [List.size_toArray]; omega) ?_
  · have := Nat.min_le_right (PyData.depthAll ds) d.depth
    omega
  · have hj' : j < its.length := by
      obtain ⟨h1, _⟩ := List.findIdx?_eq_some_iff_getElem.mp hj
      have := hi.len
      omega
    refine ⟨.non, _, I.lset (its' := its.eraseIdx j) (ys := ys.eraseIdx j) (t' := s.toks) hl e ?_ ?_ ?_, rfl, q⟩
    · simp
    · exact vals_erase r j
    · have := List.length_eraseIdx_le ys j
      omega
end
/-! ### dicts with text keys, truth, by what is tracked -/
section
variable {X : Cx} {o i value : Expr} {pos pos' : Pos} {td ty tv ta : TE}
def tDGetS (td ty : TE) : TE := fun σ H Q => td σ H fun x H1 => ty σ H1 fun y H2 => ∃ (a : Addr) (k : Str) (kvs : List (Key × V)) (v : V), x = .ref a ∧ y = .str k ∧ H2 a = some (.dK kvs) ∧ valV kvs (Sum.inr k) = some v ∧ Q v H2
theorem pe_dgetS (hu : X.A.units + 1 < cLine) (ho : PE X o td) (hi : PE X i ty) (hs : NoSl i) : PE X (.Subscript o i pos) (tDGetS td ty) := by
  constructor
  intro pins s σ H Q I h
  apply subD_of PySem.F.slot_dict_getitem.lookup hs
  refine thn (ho.run pins s σ H _ I h) fun u s1 hx => ?_
  obtain ⟨x, H1, I1, rx, q1⟩ := hx
  refine thn (hi.run pins s1 σ H1 _ I1 q1) fun iv s2 hy => ?_
  obtain ⟨y, H2, I2, ry, a, k, kvs, v, rfl, rfl, e, l, q2⟩ := hy
  cases rx
  have g : DGet H2 a (kV (.inr k)) (some v) := by rw [← l]; exact DGet.k e
  exact ⟨dict_typeIs I2 g, d_getItem hu I2 g ry fun w' s3 I3 rw' => ⟨v, H2, I3, rw', q2⟩⟩
def sDPutS (td ty tv : TE) : TS := fun D σ H => tv σ H fun v H1 => td σ H1 fun x H2 => ty σ H2 fun y H3 => ∃ (a : Addr) (k : Str) (kvs : List (Key × V)), x = .ref a ∧ y = .str k ∧ H3 a = some (.dK kvs) ∧ kvs.length < sizeLine ∧ D.nx σ (upd H3 a (.dK (putK kvs (Sum.inr k) v)))
theorem ps_dputS (hu : X.A.units + 1 < cLine) (ho : PE X o td) (hi : PE X i ty) (hv : PE X value tv) (hs : swapsWith value (some (.Subscript o i pos')) pos.line X.env = pure false) :
    PS X (.Assign [.Subscript o i pos'] value pos) (sDPutS td ty tv) := by
  constructor
  intro pins s σ H D I h
  refine wpAny_Assign_Subscript ?_ hs
  refine thn (hv.run pins s σ H _ I h) fun r s1 hx => ?_
  obtain ⟨v, H1, I1, rv, q1⟩ := hx
  refine thn (ho.run pins s1 σ H1 _ I1 q1) fun u s2 hy => ?_
  obtain ⟨x, H2, I2, rx, q2⟩ := hy
  refine thn (hi.run pins s2 σ H2 _ I2 q2) fun iv s3 hz => ?_
  obtain ⟨y, H3, I3, ry, a, k, kvs, rfl, rfl, e, l, q3⟩ := hz
  cases rx
  exact d_setItem hu I3 (DPut.k (k := Sum.inr k) e l) ry rv fun s4 I4 => ⟨σ, _, I4, q3⟩
def truO : Option HO → Option Bool
  | some (.lst xs) => some (!xs.isEmpty)
  | some (.tup xs) => some (!xs.isEmpty)
  | _ => none
def truS (H : Hp) : V → Option Bool
  | .non => some false
  | .bl b => some b
  | .int i => some (i != 0)
  | .ref p => truO (H p)
  | _ => none
theorem truO_l {xs : List V} : truO (some (.lst xs)) = some (!xs.isEmpty) := rfl
theorem truO_t {xs : List V} : truO (some (.tup xs)) = some (!xs.isEmpty) := rfl
theorem truS_ref {H : Hp} {p : Addr} : truS H (.ref p) = truO (H p) := rfl
theorem truS_non {H : Hp} : truS H .non = some false := rfl
theorem truS_bl {H : Hp} {b : Bool} : truS H (.bl b) = some b := rfl
theorem truS_int {H : Hp} {b : Int} : truS H (.int b) = some (b != 0) := rfl
theorem truS_v {K : PySem.W.Frag} {H : Hp} {x : V} {k : Bool} (h : truS H x = some k) : TruV K x H k := by
  cases x with
  | non => cases h; rfl
  | bl b => cases h; rfl
  | int i => cases h; rfl
  | ref a =>
    rw [truS_ref] at h
    cases e : H a with
    | none => rw [e] at h; cases h
    | some o =>
      rw [e] at h
      cases o with
      | lst xs => cases h; exact .inl ⟨xs, SqL.of e, rfl⟩
      | tup xs => cases h; exact .inr (.inl ⟨xs, SqT.of e, rfl⟩)
      | _ => cases h
  | _ => cases h
def tTruS (ta : TE) : TT := fun σ H Q => ta σ H fun x H' => ∃ k, truS H' x = some k ∧ Q k H'
theorem pt_truS {a : Expr} (ha : PE X a ta) (he : ∀ whole, isTrue a X.env whole = (do let v ← whole; standAt a.pos; holding [v] (truthy v))) : PT X a (tTruS ta) := by
  constructor
  intro pins s σ H Q I h
  refine PyProof.Rows.isTrue_plain ?_ (he _)
  refine thn (ha.run pins s σ H _ I h) fun v s1 hx => ?_
  obtain ⟨x, H1, I1, r1, k, e, q⟩ := hx
  exact tru_ok pins s1 σ H1 x v Q I1 r1 ⟨k, truS_v e, q⟩
end
theorem valV_cons {p : Key × V} {r : List (Key × V)} {k : Key} : valV (p :: r) k = if p.1 = k then some p.2 else valV r k := by
  by_cases e : p.1 = k
  · rw [valV_pos e, if_pos e]
  · rw [valV_neg e, if_neg e]
/-! ### locks: the data, the mirror -/
abbrev Who := Int × Int × Int
def wD (w : Who) : PyData := .tuple [.tuple [.int w.1, .int w.2.1], .int w.2.2]
def tD (t : Int × Int) : PyData := .tuple [.int t.1, .int t.2]
def hD : Option Who → PyData
  | none => .none
  | some w => wD w
abbrev Who.tr (w : Who) : Int × Int := (w.1, w.2.1)
abbrev Who.at (w : Who) : Int := w.2.2
theorem wD_pl (w : Who) : pl 2 (wD w) = true := by simp [wD, pl, plAll]
theorem tD_pl (w : Int × Int) : pl 1 (tD w) = true := by simp [tD, pl, plAll]
theorem hD_pl (w : Option Who) : pl 2 (hD w) = true := by cases w <;> simp [hD, wD, pl, plAll]
theorem wD_inj {a b : Who} (h : wD a = wD b) : a = b := by
  obtain ⟨a1, a2, a3⟩ := a; obtain ⟨b1, b2, b3⟩ := b
  simp only [wD, PyData.tuple.injEq, List.cons.injEq, PyData.int.injEq, and_true] at h
  obtain ⟨⟨h1, h2⟩, h3⟩ := h
  subst h1; subst h2; subst h3; rfl
theorem tD_inj {a b : Int × Int} (h : tD a = tD b) : a = b := by
  obtain ⟨a1, a2⟩ := a; obtain ⟨b1, b2⟩ := b
  simp only [tD, PyData.tuple.injEq, List.cons.injEq, PyData.int.injEq, and_true] at h
  obtain ⟨h1, h2⟩ := h
  subst h1; subst h2; rfl
theorem hD_inj {a b : Option Who} (h : hD a = hD b) : a = b := by
  cases a <;> cases b
  · rfl
  · simp [hD, wD] at h
  · simp [hD, wD] at h
  · exact congrArg some (wD_inj (by simpa only [hD] using h))
theorem wD_eqv (a b : Who) : PyData.eqv (wD a) (wD b) = decide (a = b) := by
  rw [pl_eqv_dec (wD_pl a) (wD_pl b)]
  by_cases h : a = b
  · subst h; simp
  · rw [decide_eq_false h, decide_eq_false fun e => h (wD_inj e)]
theorem tD_eqv (a b : Int × Int) : PyData.eqv (tD a) (tD b) = decide (a = b) := by
  rw [pl_eqv_dec (tD_pl a) (tD_pl b)]
  by_cases h : a = b
  · subst h; simp
  · rw [decide_eq_false h, decide_eq_false fun e => h (tD_inj e)]
theorem hD_eqv (a b : Option Who) : PyData.eqv (hD a) (hD b) = decide (a = b) := by
  rw [pl_eqv_dec (hD_pl a) (hD_pl b)]
  by_cases h : a = b
  · subst h; simp
  · rw [decide_eq_false h, decide_eq_false fun e => h (hD_inj e)]
theorem wD_shaped (a : Who) : SeqAt.shaped (wD a) = true := pl_shaped (wD_pl a)
theorem tD_shaped (a : Int × Int) : SeqAt.shaped (tD a) = true := pl_shaped (tD_pl a)
theorem hD_shaped (a : Option Who) : SeqAt.shaped (hD a) = true := pl_shaped (hD_pl a)
theorem wDs_shaped (ws : List Who) : SeqAt.shaped (.list (ws.map wD)) = true := pl_shaped (pl_list fun d h => by obtain ⟨w, _, rfl⟩ := List.mem_map.mp h; exact wD_pl w)
theorem wDs_any (ws : List Who) (w : Who) : ((ws.map wD).any fun z => PyData.eqv z (wD w)) = decide (w ∈ ws) := by
  rw [Bool.eq_iff_iff, List.any_eq_true, decide_eq_true_eq]
  constructor
  · rintro ⟨z, hz, e⟩
    obtain ⟨u, hu, rfl⟩ := List.mem_map.mp hz
    rw [wD_eqv, decide_eq_true_eq] at e
    subst e; exact hu
  · intro h
    exact ⟨wD w, List.mem_map_of_mem h, by rw [wD_eqv]; simp⟩
theorem wD_depth (w : Who) : (wD w).depth = 2 := by simp [wD, PyData.depth, PyData.depthAll]
/-- a who as it stands -/
theorem wD_at {H : Hp} {w : Who} {v : V} (i : Im H (wD w) v) : ∃ a t, v = .ref a ∧ H a = some (.tup [t, .int w.2.2]) ∧ Im H (tD w.tr) t := by
  obtain ⟨a, xs, rfl, ha, hx⟩ := im_tupE i
  simp only [ImAll] at hx
  obtain ⟨v1, r1, rfl, h1, v2, r2, rfl, h2, rfl⟩ := hx
  simp only [Im] at h2
  subst h2
  exact ⟨a, v1, rfl, ha, h1⟩
theorem hD_none {H : Hp} {v : V} (i : Im H (hD none) v) : v = .non := by simpa only [hD, Im] using i
theorem hD_ref {H : Hp} {w : Who} {v : V} (i : Im H (hD (some w)) v) : ∃ a t, v = .ref a ∧ H a = some (.tup [t, .int w.2.2]) ∧ Im H (tD w.tr) t := wD_at i
/-- elder than: by the transaction's place, its number, then the attempt -/
def ltW (a b : Who) : Bool := decide (a.1 < b.1 ∨ (a.1 = b.1 ∧ (a.2.1 < b.2.1 ∨ (a.2.1 = b.2.1 ∧ a.2.2 < b.2.2))))
open PySem.W in
theorem wD_alike (a b : Who) : alike (wD a) (wD b) = true := by simp [wD, alike, alikeAll]
open PySem.W in
theorem wD_lt (a b : Who) : dataLt (wD a) (wD b) = ltW a b := by
  obtain ⟨a1, a2, a3⟩ := a; obtain ⟨b1, b2, b3⟩ := b
  show dataLt (.tuple [.tuple [.int a1, .int a2], .int a3]) (.tuple [.tuple [.int b1, .int b2], .int b3]) = _
  rw [dataLt_pair (by simp [alike, alikeAll]) (by simp [alike]), dataLt_ii, dataLt_int]
  have e1 : PyData.eqv (.tuple [.int a1, .int a2]) (.tuple [.int b1, .int b2]) = decide (a1 = b1 ∧ a2 = b2) := by
    rw [Bool.eq_iff_iff]; simp [PyData.eqv, PyData.eqvAll]
  have e2 : PyData.eqv (.int a3) (.int b3) = decide (a3 = b3) := by
    rw [Bool.eq_iff_iff]; simp [PyData.eqv]
  rw [e1, e2]
  unfold ltW
  simp only [decide_eq_true_eq]
  by_cases h1 : a1 = b1 <;> by_cases h2 : a2 = b2 <;> by_cases h3 : a3 = b3
  all_goals simp only [h1, h2, h3, true_and, and_true, if_true, if_false, and_self, false_and, and_false, Int.lt_irrefl, decide_false, false_or, or_false]
  all_goals try rfl
theorem ltW_irr (a : Who) : ltW a a = false := by simp [ltW]
theorem ltW_tri {a b : Who} (h1 : ltW a b = false) (h2 : ltW b a = false) : a = b := by
  obtain ⟨a1, a2, a3⟩ := a; obtain ⟨b1, b2, b3⟩ := b
  simp only [ltW, decide_eq_false_iff_not] at h1 h2
  have : a1 = b1 ∧ a2 = b2 ∧ a3 = b3 := by omega
  obtain ⟨rfl, rfl, rfl⟩ := this; rfl
theorem ltW_tr {a b c : Who} (h1 : ltW b a = false) (h2 : ltW c b = false) : ltW c a = false := by
  simp only [ltW, decide_eq_false_iff_not] at *
  omega
theorem ltW_tot (a b : Who) : ltW b a = false ∨ ltW a b = false := by
  simp only [ltW, decide_eq_false_iff_not]
  omega
def sortW (ws : List Who) : List Who := ws.mergeSort fun a b => !ltW b a
def minW (w : Who) (ws : List Who) : Who := ws.foldl (fun a y => if ltW y a then y else a) w
open PySem.W in
theorem sortW_map (ws : List Who) : (ws.map wD).mergeSort (fun d e => !dataLt e d) = (sortW ws).map wD := by
  unfold sortW
  rw [← sort_maps (r := fun a b => !ltW b a) (s := fun d e => !dataLt e d) wD fun a _ b _ => by rw [wD_lt]]
open PySem.W in
theorem minW_map (w : Who) (ws : List Who) : minD (wD w) (ws.map wD) = wD (minW w ws) := by
  unfold minD minW
  induction ws generalizing w with
  | nil => rfl
  | cons y ws ih =>
    simp only [List.map_cons, List.foldl_cons, wD_lt]
    rw [← ih]
    congr 1
    split <;> rfl
theorem minW_mem (w : Who) : ∀ ws : List Who, minW w ws ∈ w :: ws := by
  intro ws
  unfold minW
  induction ws generalizing w with
  | nil => simp
  | cons e ds ih =>
    simp only [List.foldl_cons]
    have := ih (if ltW e w = true then e else w)
    rcases List.mem_cons.mp this with h | h
    · rw [h]; split <;> simp
    · simp [h]
theorem minW_le (w : Who) : ∀ ws : List Who, ∀ x ∈ w :: ws, ltW x (minW w ws) = false := by
  intro ws
  unfold minW
  induction ws generalizing w with
  | nil => intro x hx; rw [List.mem_singleton] at hx; subst hx; exact ltW_irr _
  | cons e ds ih =>
    intro x hx
    simp only [List.foldl_cons]
    have h0 := ih (if ltW e w = true then e else w)
    have hh := h0 _ List.mem_cons_self
    rcases List.mem_cons.mp hx with rfl | hx
    · cases he : ltW e x with
      | true =>
        rw [he] at hh
        simp only [if_true] at hh
        have : ltW x e = false := by
          rcases ltW_tot e x with h | h
          · exact h
          · rw [he] at h; cases h
        simp only [if_true]
        exact ltW_tr hh this
      | false =>
        rw [he] at hh
        simpa using hh
    rcases List.mem_cons.mp hx with rfl | hx
    · cases he : ltW x w with
      | true =>
        rw [he] at hh
        simpa using hh
      | false =>
        rw [he] at hh
        simp only [Bool.false_eq_true, if_false] at hh ⊢
        exact ltW_tr hh he
    · exact h0 x (List.mem_cons_of_mem _ hx)
theorem sortW_head (w : Who) (ws : List Who) : ∃ r, sortW (w :: ws) = minW w ws :: r := by
  have hp := List.mergeSort_perm (w :: ws) fun a b => !ltW b a
  have hs : (sortW (w :: ws)).Pairwise fun a b => (!ltW b a) = true := List.pairwise_mergeSort (le := fun a b => !ltW b a)
    (fun a b c h1 h2 => by simp only [Bool.not_eq_true'] at *; exact ltW_tr h1 h2) (fun a b => by
      rcases ltW_tot a b with h | h
      · simp [h]
      · simp [h]) _
  cases e : sortW (w :: ws) with
  | nil =>
    have := hp.length_eq
    unfold sortW at e
    rw [e] at this; simp at this
  | cons x r =>
    rw [e] at hs
    have hx : x ∈ w :: ws := by
      have : x ∈ sortW (w :: ws) := by rw [e]; simp
      exact hp.mem_iff.mp this
    have hm : minW w ws ∈ x :: r := by
      rw [← e]; exact hp.mem_iff.mpr (minW_mem w ws)
    rcases List.mem_cons.mp hm with h | h
    · exact ⟨r, by rw [h]⟩
    · have h1 := (List.pairwise_cons.mp hs).1 _ h
      simp only [Bool.not_eq_true'] at h1
      exact ⟨r, by rw [ltW_tri h1 (minW_le w ws x hx)]⟩
/-- a lock's state -/
structure LS where
  value : Int
  turn : Int
  holder : Option Who
  waiting : List Who
/-- who waits of other transactions, or with a later attempt -/
abbrev LS.left (S : LS) (t : Int × Int) (a : Int) : List Who := S.waiting.filter fun w => decide (w.tr ≠ t ∨ a < w.2.2)
def freeS (S : LS) (t : Int × Int) (a : Int) : LS × List Who :=
  match S.holder with
  | none => (⟨S.value, S.turn, none, S.left t a⟩, [])
  | some h => if h.tr ≠ t ∨ a < h.2.2 then (⟨S.value, S.turn, some h, S.left t a⟩, []) else
    match S.left t a with
    | [] => (⟨S.value, S.turn, none, []⟩, [])
    | w :: ws => (⟨S.value, S.turn + 1, some (minW w ws), (w :: ws).filter fun x => decide (x ≠ minW w ws)⟩, [minW w ws])
def askS (S : LS) (w : Who) : LS × List Who :=
  match (freeS S w.tr (w.2.2 - 1)).1.holder with
  | none => (⟨S.value, (freeS S w.tr (w.2.2 - 1)).1.turn + 1, some w, (freeS S w.tr (w.2.2 - 1)).1.waiting⟩, [w])
  | some h => if h ≠ w ∧ w ∉ (freeS S w.tr (w.2.2 - 1)).1.waiting then
      (⟨S.value, (freeS S w.tr (w.2.2 - 1)).1.turn, some h, (freeS S w.tr (w.2.2 - 1)).1.waiting ++ [w]⟩, (freeS S w.tr (w.2.2 - 1)).2)
    else freeS S w.tr (w.2.2 - 1)
def finS (S : LS) (w : Who) (v : Int) : LS × List Who := if S.holder ≠ some w then (S, []) else freeS { S with value := v } w.tr w.2.2
theorem freeS_value (S : LS) (t : Int × Int) (a : Int) : (freeS S t a).1.value = S.value := by
  unfold freeS; split
  · rfl
  · split
    · rfl
    · split <;> rfl
theorem left_len (S : LS) (t : Int × Int) (a : Int) : (S.left t a).length ≤ S.waiting.length := List.length_filter_le _ _
theorem freeS_len (S : LS) (t : Int × Int) (a : Int) : (freeS S t a).1.waiting.length ≤ S.waiting.length := by
  have h := left_len S t a
  unfold freeS; split
  · exact h
  · split
    · exact h
    · split
      · simp
      · rename_i w ws e
        rw [e] at h
        exact Nat.le_trans (List.length_filter_le _ _) h
theorem freeS_nd (S : LS) (t : Int × Int) (a : Int) (h : S.waiting.Nodup) : (freeS S t a).1.waiting.Nodup := by
  have hl : (S.left t a).Nodup := h.filter _
  unfold freeS; split
  · exact hl
  · split
    · exact hl
    · split
      · exact List.nodup_nil
      · rename_i w ws e
        rw [e] at hl
        show List.Nodup (List.filter _ _)
        exact List.Pairwise.filter _ hl
theorem askS_len (S : LS) (w : Who) : (askS S w).1.waiting.length ≤ S.waiting.length + 1 := by
  have h := freeS_len S w.tr (w.2.2 - 1)
  unfold askS; split
  · exact Nat.le_succ_of_le h
  · split
    · simp; omega
    · omega
theorem askS_nd (S : LS) (w : Who) (h : S.waiting.Nodup) : (askS S w).1.waiting.Nodup := by
  have h := freeS_nd S w.tr (w.2.2 - 1) h
  unfold askS; split
  · exact h
  · split
    · rename_i hh
      exact List.nodup_append.mpr ⟨h, by simp, fun a ha b hb => by rw [List.mem_singleton] at hb; subst hb; rintro rfl; exact hh.2 ha⟩
    · exact h
theorem finS_len (S : LS) (w : Who) (v : Int) : (finS S w v).1.waiting.length ≤ S.waiting.length := by
  unfold finS; split
  · exact Nat.le_refl _
  · exact freeS_len _ _ _
theorem finS_nd (S : LS) (w : Who) (v : Int) (h : S.waiting.Nodup) : (finS S w v).1.waiting.Nodup := by
  unfold finS; split
  · exact h
  · exact freeS_nd _ _ _ h
/-! ### locks on the heap, their plain models -/
def lockF (v t : Int) (h : V) (l : Addr) : List (Str × V) := [(Str.ofString "value", .int v), (Str.ofString "turn", .int t), (Str.ofString "holder", h), (Str.ofString "_waiting", .ref l)]
def LockAt (C : Addr) (H : Hp) (p l : Addr) (S : LS) : Prop := ∃ dx hv ws, H p = some (.ins C dx (lockF S.value S.turn hv l)) ∧ Im H (hD S.holder) hv ∧ H l = some (.lst ws) ∧ ImAll H (S.waiting.map wD) ws
def modF (v t : Int) (h : V) (l : Addr) : List (Key × V) := [(Sum.inr (Str.ofString "value"), .int v), (Sum.inr (Str.ofString "turn"), .int t), (Sum.inr (Str.ofString "holder"), h), (Sum.inr (Str.ofString "waiting"), .ref l)]
def ModAt (H : Hp) (p l : Addr) (S : LS) : Prop := ∃ hv ws, H p = some (.dK (modF S.value S.turn hv l)) ∧ Im H (hD S.holder) hv ∧ H l = some (.lst ws) ∧ ImAll H (S.waiting.map wD) ws
/-- all but what stands at p and l is as it was; nothing is lost -/
structure Bt (p l : Addr) (H H' : Hp) : Prop where
  keep : ∀ b o, H b = some o → b ≠ p → b ≠ l → H' b = some o
  non : ∀ b, H' b = none → H b = none
theorem Bt.refl (p l : Addr) (H : Hp) : Bt p l H H := ⟨fun _ _ e _ _ => e, fun _ e => e⟩
theorem Bt.of {p l : Addr} {H H' : Hp} (s : Same H H') : Bt p l H H' := ⟨fun b o e _ _ => s b o e, fun b e => by
  cases z : H b with
  | none => rfl
  | some o => rw [s _ _ z] at e; cases e⟩
theorem Bt.trans {p l : Addr} {H H1 H2 : Hp} (a : Bt p l H H1) (b : Bt p l H1 H2) : Bt p l H H2 := ⟨fun c o e n1 n2 => b.keep c o (a.keep c o e n1 n2) n1 n2, fun c e => a.non c (b.non c e)⟩
theorem Bt.same {p l : Addr} {H H1 H2 : Hp} (a : Bt p l H H1) (s : Same H1 H2) : Bt p l H H2 := a.trans (Bt.of s)
theorem Bt.new {p l q : Addr} {H H1 : Hp} {o : HO} (a : Bt p l H H1) (h : H1 q = none) : Bt p l H (upd H1 q o) := a.same (same_new h)
theorem Bt.putP {p l : Addr} {H H1 : Hp} {o : HO} (a : Bt p l H H1) : Bt p l H (upd H1 p o) := ⟨fun c x e n1 n2 => get_ne n1 (a.keep c x e n1 n2), fun c e => a.non c (upd_none e).2⟩
theorem Bt.putL {p l : Addr} {H H1 : Hp} {o : HO} (a : Bt p l H H1) : Bt p l H (upd H1 l o) := ⟨fun c x e n1 n2 => get_ne n2 (a.keep c x e n1 n2), fun c e => a.non c (upd_none e).2⟩
theorem Bt.one {p l : Addr} {H H' : Hp} (a : Bt p p H H') : Bt p l H H' := ⟨fun c x e n1 _ => a.keep c x e n1 n1, a.non⟩
/-- a new list of the def's own is put -/
theorem Bt.putN {p l q : Addr} {H H1 : Hp} {o : HO} (a : Bt p l H H1) (h : H q = none) : Bt p l H (upd H1 q o) := ⟨fun c x e n1 n2 => get_ne (ne_of_none e h) (a.keep c x e n1 n2), fun c e => a.non c (upd_none e).2⟩
open PySem.W in
theorem wDs_alike (ws : List Who) : AllAlike (ws.map wD) := AllAlike.of wD_alike
open PySem.W in
theorem wDs_sortable (ws : List Who) : Sortable (ws.map wD) := Sortable.tuples fun w => ⟨_, _, rfl⟩
theorem wDs_depth (ws : List Who) : ∀ d ∈ ws.map wD, d.depth ≤ 60 := fun d h => by
  obtain ⟨w, _, rfl⟩ := List.mem_map.mp h
  rw [wD_depth]; decide
theorem ims_who {H : Hp} {ws : List Who} {vs : List V} {i : Nat} {v : V} (h : ImAll H (ws.map wD) vs) (e : vs[i]? = some v) : ∃ w, ws[i]? = some w ∧ Im H (wD w) v := by
  obtain ⟨d, e1, e2⟩ := h.get e
  rw [List.getElem?_map] at e1
  cases q : ws[i]? with
  | none => rw [q] at e1; cases e1
  | some w => rw [q] at e1; cases e1; exact ⟨w, rfl, e2⟩
theorem filter_take {α : Type} {P : α → Bool} {xs : List α} {i : Nat} {x : α} (h : xs[i]? = some x) : (xs.take (i + 1)).filter P = if P x = true then (xs.take i).filter P ++ [x] else (xs.take i).filter P := by
  rw [take_snoc h, List.filter_append]
  cases e : P x <;> simp [e]
open PySem.W in
theorem wDs_alikeAll (ws : List Who) : AlikeAll (ws.map wD) := ⟨fun x hx y hy => by
  obtain ⟨a, _, rfl⟩ := List.mem_map.mp hx
  obtain ⟨b, _, rfl⟩ := List.mem_map.mp hy
  exact wD_alike a b, fun x hx => by
  obtain ⟨a, _, rfl⟩ := List.mem_map.mp hx
  simp [wD]⟩
theorem free_no {H H' : Hp} (s : Same H H') {q : Addr} (h : H' q = none) : H q = none := by
  cases z : H q with
  | none => rfl
  | some o => rw [s _ _ z] at h; cases h
theorem Bt.tk {p l C dx : Addr} {H H' : Hp} {fs : List (Str × V)} {ws : List V} (b : Bt p l H H') (hp : H p = some (.ins C dx fs)) (hl : H l = some (.lst ws)) : Tk H H' := fun c xs e => b.keep c _ e (ne_it hp e).symm (fun z => by subst z; rw [hl] at e; cases e)
theorem Bt.tk1 {p C dx : Addr} {H H' : Hp} {fs : List (Str × V)} (b : Bt p p H H') (hp : H p = some (.ins C dx fs)) : Tk H H' := fun c xs e => b.keep c _ e (ne_it hp e).symm (ne_it hp e).symm
theorem BtD.tk {p l : Addr} {H H' : Hp} {fs : List (Key × V)} {ws : List V} (b : Bt p l H H') (hp : H p = some (.dK fs)) (hl : H l = some (.lst ws)) : Tk H H' := fun c xs e => b.keep c _ e (fun z => by subst z; rw [hp] at e; cases e) (fun z => by subst z; rw [hl] at e; cases e)
section
variable {v t : Int} {h : V} {l : Addr}
theorem mk_value_turn : (Str.ofString "value" = Str.ofString "turn") = False := eq_false (by decide +kernel)
theorem mk_value_holder : (Str.ofString "value" = Str.ofString "holder") = False := eq_false (by decide +kernel)
theorem mk_value_waiting : (Str.ofString "value" = Str.ofString "waiting") = False := eq_false (by decide +kernel)
theorem mk_turn_value : (Str.ofString "turn" = Str.ofString "value") = False := eq_false (by decide +kernel)
theorem mk_turn_holder : (Str.ofString "turn" = Str.ofString "holder") = False := eq_false (by decide +kernel)
theorem mk_turn_waiting : (Str.ofString "turn" = Str.ofString "waiting") = False := eq_false (by decide +kernel)
theorem mk_holder_value : (Str.ofString "holder" = Str.ofString "value") = False := eq_false (by decide +kernel)
theorem mk_holder_turn : (Str.ofString "holder" = Str.ofString "turn") = False := eq_false (by decide +kernel)
theorem mk_holder_waiting : (Str.ofString "holder" = Str.ofString "waiting") = False := eq_false (by decide +kernel)
theorem mk_waiting_value : (Str.ofString "waiting" = Str.ofString "value") = False := eq_false (by decide +kernel)
theorem mk_waiting_turn : (Str.ofString "waiting" = Str.ofString "turn") = False := eq_false (by decide +kernel)
theorem mk_waiting_holder : (Str.ofString "waiting" = Str.ofString "holder") = False := eq_false (by decide +kernel)
theorem modF_len : (modF v t h l).length = 4 := rfl
theorem modF_value : valV (modF v t h l) (Sum.inr (Str.ofString "value")) = some (.int v) := by simp only [modF, valV_cons, Sum.inr.injEq, mk_value_turn, mk_value_holder, mk_value_waiting, mk_turn_value, mk_turn_holder, mk_turn_waiting, mk_holder_value, mk_holder_turn, mk_holder_waiting, mk_waiting_value, mk_waiting_turn, mk_waiting_holder, if_false, if_true]
theorem modF_turn : valV (modF v t h l) (Sum.inr (Str.ofString "turn")) = some (.int t) := by simp only [modF, valV_cons, Sum.inr.injEq, mk_value_turn, mk_value_holder, mk_value_waiting, mk_turn_value, mk_turn_holder, mk_turn_waiting, mk_holder_value, mk_holder_turn, mk_holder_waiting, mk_waiting_value, mk_waiting_turn, mk_waiting_holder, if_false, if_true]
theorem modF_holder : valV (modF v t h l) (Sum.inr (Str.ofString "holder")) = some (h) := by simp only [modF, valV_cons, Sum.inr.injEq, mk_value_turn, mk_value_holder, mk_value_waiting, mk_turn_value, mk_turn_holder, mk_turn_waiting, mk_holder_value, mk_holder_turn, mk_holder_waiting, mk_waiting_value, mk_waiting_turn, mk_waiting_holder, if_false, if_true]
theorem modF_waiting : valV (modF v t h l) (Sum.inr (Str.ofString "waiting")) = some (.ref l) := by simp only [modF, valV_cons, Sum.inr.injEq, mk_value_turn, mk_value_holder, mk_value_waiting, mk_turn_value, mk_turn_holder, mk_turn_waiting, mk_holder_value, mk_holder_turn, mk_holder_waiting, mk_waiting_value, mk_waiting_turn, mk_waiting_holder, if_false, if_true]
theorem modF_put_value {x : Int} : putK (modF v t h l) (Sum.inr (Str.ofString "value")) (.int x) = modF x t h l := by simp only [modF, putK, List.any_cons, List.any_nil, List.map_cons, List.map_nil, Sum.inr.injEq, mk_value_turn, mk_value_holder, mk_value_waiting, mk_turn_value, mk_turn_holder, mk_turn_waiting, mk_holder_value, mk_holder_turn, mk_holder_waiting, mk_waiting_value, mk_waiting_turn, mk_waiting_holder, if_false, if_true, decide_true, decide_false, Bool.or_true, Bool.true_or, Bool.or_false, Bool.false_or]
theorem modF_put_turn {x : Int} : putK (modF v t h l) (Sum.inr (Str.ofString "turn")) (.int x) = modF v x h l := by simp only [modF, putK, List.any_cons, List.any_nil, List.map_cons, List.map_nil, Sum.inr.injEq, mk_value_turn, mk_value_holder, mk_value_waiting, mk_turn_value, mk_turn_holder, mk_turn_waiting, mk_holder_value, mk_holder_turn, mk_holder_waiting, mk_waiting_value, mk_waiting_turn, mk_waiting_holder, if_false, if_true, decide_true, decide_false, Bool.or_true, Bool.true_or, Bool.or_false, Bool.false_or]
theorem modF_put_holder {x : V} : putK (modF v t h l) (Sum.inr (Str.ofString "holder")) (x) = modF v t x l := by simp only [modF, putK, List.any_cons, List.any_nil, List.map_cons, List.map_nil, Sum.inr.injEq, mk_value_turn, mk_value_holder, mk_value_waiting, mk_turn_value, mk_turn_holder, mk_turn_waiting, mk_holder_value, mk_holder_turn, mk_holder_waiting, mk_waiting_value, mk_waiting_turn, mk_waiting_holder, if_false, if_true, decide_true, decide_false, Bool.or_true, Bool.true_or, Bool.or_false, Bool.false_or]
theorem modF_put_waiting {x : Addr} : putK (modF v t h l) (Sum.inr (Str.ofString "waiting")) (.ref x) = modF v t h x := by simp only [modF, putK, List.any_cons, List.any_nil, List.map_cons, List.map_nil, Sum.inr.injEq, mk_value_turn, mk_value_holder, mk_value_waiting, mk_turn_value, mk_turn_holder, mk_turn_waiting, mk_holder_value, mk_holder_turn, mk_holder_waiting, mk_waiting_value, mk_waiting_turn, mk_waiting_holder, if_false, if_true, decide_true, decide_false, Bool.or_true, Bool.true_or, Bool.or_false, Bool.false_or]
theorem modF_merge : mergeK [] (modF v t h l) = modF v t h l := by simp only [mergeK, modF, putK, List.foldl_cons, List.foldl_nil, List.any_cons, List.any_nil, List.nil_append, List.cons_append, Sum.inr.injEq, mk_value_turn, mk_value_holder, mk_value_waiting, mk_turn_value, mk_turn_holder, mk_turn_waiting, mk_holder_value, mk_holder_turn, mk_holder_waiting, mk_waiting_value, mk_waiting_turn, mk_waiting_holder, if_false, if_true, decide_true, decide_false, Bool.or_true, Bool.true_or, Bool.or_false, Bool.false_or, Bool.false_eq_true]
end
theorem ImAll.erase {H : Hp} : ∀ {ds : List PyData} {vs : List V} (j : Nat), ImAll H ds vs → ImAll H (ds.eraseIdx j) (vs.eraseIdx j)
  | [], _, _, h => by simp only [ImAll] at h; subst h; exact im_nil
  | d :: ds, vs, 0, h => by
    simp only [ImAll] at h
    obtain ⟨u, r, rfl, h1, h2⟩ := h
    exact h2
  | d :: ds, vs, j + 1, h => by
    simp only [ImAll] at h
    obtain ⟨u, r, rfl, h1, h2⟩ := h
    exact im_cons h1 (ImAll.erase j h2)
theorem erase_who {m : Who} : ∀ {ws : List Who}, ws.Nodup → m ∈ ws → ∃ j, SeqAt.dataPlace (ws.map wD) (wD m) = some j ∧ ws.eraseIdx j = ws.filter fun x => decide (x ≠ m)
  | [], _, h => by simp at h
  | w :: ws, nd, h => by
    by_cases e : w = m
    · subst e
      refine ⟨0, by simp [SeqAt.dataPlace, List.findIdx?_cons, wD_eqv], ?_⟩
      have hn := (List.nodup_cons.mp nd).1
      simp only [List.eraseIdx_cons_zero, List.filter_cons, ne_eq, not_true, decide_false, Bool.false_eq_true, if_false]
      refine (List.filter_eq_self.mpr fun x hx => ?_).symm
      exact decide_eq_true fun z => hn (z ▸ hx)
    · obtain ⟨j, h1, h2⟩ := erase_who (List.nodup_cons.mp nd).2 ((List.mem_cons.mp h).resolve_left fun z => e z.symm)
      refine ⟨j + 1, ?_, ?_⟩
      · unfold SeqAt.dataPlace at h1 ⊢
        rw [List.map_cons, List.findIdx?_cons, wD_eqv, decide_eq_false e]
        simp [h1]
      · simp only [List.eraseIdx_cons_succ, List.filter_cons, ne_eq, e, not_false_eq_true, decide_true, if_true]
        rw [h2]
theorem wDs_plain : ∀ ws : List Who, PyData.plainAll (ws.map wD) = true
  | [] => rfl
  | w :: ws => by
    have := wDs_plain ws
    simp [PyData.plainAll, PyData.plain, wD, this]
theorem wD_plain (w : Who) : (wD w).plain = true := by simp [PyData.plain, PyData.plainAll, wD]
theorem left_not {w : Who} {t : Int × Int} {a : Int} : (¬ (w.tr = t ∧ w.2.2 ≤ a)) ↔ (w.tr ≠ t ∨ a < w.2.2) := by
  constructor
  · intro h
    by_cases e : w.tr = t
    · exact .inr (Int.not_le.mp fun z => h ⟨e, z⟩)
    · exact .inl e
  · rintro (h | h) z
    · exact h z.1
    · omega
theorem map_erase {α β : Type} (f : α → β) : ∀ (xs : List α) (j : Nat), (xs.map f).eraseIdx j = (xs.eraseIdx j).map f
  | [], _ => rfl
  | _ :: _, 0 => rfl
  | x :: xs, j + 1 => by simp only [List.map_cons, List.eraseIdx_cons_succ]; rw [map_erase f xs j]
theorem kd_fa : (Str.ofString "free" = Str.ofString "ask") = False := eq_false (by decide +kernel)
theorem kd_na : (Str.ofString "finish" = Str.ofString "ask") = False := eq_false (by decide +kernel)
theorem kd_nf : (Str.ofString "finish" = Str.ofString "free") = False := eq_false (by decide +kernel)
theorem sortW_len (ws : List Who) : (sortW ws).length = ws.length := List.length_mergeSort _
/-- a lock and its plain model stand side by side, in one state -/
structure Both (C : Addr) (H : Hp) (p l d m : Addr) (S : LS) : Prop where
  lk : LockAt C H p l S
  md : ModAt H d m S
  ne : l ≠ m
theorem LockAt.same {C p l : Addr} {H H' : Hp} {S : LS} (a : LockAt C H p l S) (s : Same H H') : LockAt C H' p l S := by
  obtain ⟨dx, hv, ws, h1, h2, h3, h4⟩ := a
  exact ⟨dx, hv, ws, s _ _ h1, Same.im s h2, s _ _ h3, Same.ims s h4⟩
theorem ModAt.same {p l : Addr} {H H' : Hp} {S : LS} (a : ModAt H p l S) (s : Same H H') : ModAt H' p l S := by
  obtain ⟨hv, ws, h1, h2, h3, h4⟩ := a
  exact ⟨hv, ws, s _ _ h1, Same.im s h2, s _ _ h3, Same.ims s h4⟩
theorem Both.same {C p l d m : Addr} {H H' : Hp} {S : LS} (a : Both C H p l d m S) (s : Same H H') : Both C H' p l d m S := ⟨a.lk.same s, a.md.same s, a.ne⟩
/-- a change elsewhere -/
theorem LockAt.keep {C p l : Addr} {H H' : Hp} {S : LS} (a : LockAt C H p l S) (tk : Tk H H') (k : ∀ b o, H b = some o → (b = p ∨ b = l) → H' b = some o) : LockAt C H' p l S := by
  obtain ⟨dx, hv, ws, h1, h2, h3, h4⟩ := a
  exact ⟨dx, hv, ws, k _ _ h1 (.inl rfl), Im.mono tk _ _ h2, k _ _ h3 (.inr rfl), ImAll.mono tk _ _ h4⟩
theorem ModAt.keep {p l : Addr} {H H' : Hp} {S : LS} (a : ModAt H p l S) (tk : Tk H H') (k : ∀ b o, H b = some o → (b = p ∨ b = l) → H' b = some o) : ModAt H' p l S := by
  obtain ⟨hv, ws, h1, h2, h3, h4⟩ := a
  exact ⟨hv, ws, k _ _ h1 (.inl rfl), Im.mono tk _ _ h2, k _ _ h3 (.inr rfl), ImAll.mono tk _ _ h4⟩
theorem freeS_out (S : LS) (t : Int × Int) (a : Int) : (freeS S t a).2.length ≤ 1 := by
  unfold freeS; split
  · simp
  · split
    · simp
    · split <;> simp
theorem askS_out (S : LS) (w : Who) : (askS S w).2.length ≤ 1 := by
  unfold askS; split
  · simp
  · split
    · exact freeS_out _ _ _
    · exact freeS_out _ _ _
theorem finS_out (S : LS) (w : Who) (v : Int) : (finS S w v).2.length ≤ 1 := by
  unfold finS; split
  · simp
  · exact freeS_out _ _ _
/-- the heap with a new instance -/
theorem same_made {H : Hp} {x dx C : Addr} (nx : H x = none) (nd : H dx = none) : Same H (upd (upd H dx (.own x)) x (.ins C dx [])) := fun b o e => by
  rw [upd_ne (ne_of_none e nx), upd_ne (ne_of_none e nd)]; exact e
theorem made_none {H : Hp} {x dx C l : Addr} (h : upd (upd H dx (.own x)) x (.ins C dx []) l = none) : H l = none := (upd_none (upd_none h).2).2
theorem made_both {C p dx l d m : Addr} {Hs H1 H2 : Hp} {S : LS} (hp : Hs p = none) (hdx : Hs dx = none) (hl : upd (upd Hs dx (.own p)) p (.ins C dx []) l = none) (L1 : LockAt C H1 p l S) (b1 : Bt p p (upd (upd Hs dx (.own p)) p (.ins C dx [])) H1)
    (hd : H1 d = none) (hm : H1 m = none) (M2 : ModAt H2 d m S) (s2 : Same H1 H2) : Both C H2 p l d m S ∧ Same Hs H2 ∧ Hs l = none ∧ Hs d = none ∧ Hs m = none := by
  have s0 := same_made (C := C) hp hdx
  have sH1 : Same Hs H1 := fun b o e => b1.keep b o (s0 b o e) (ne_of_none e hp) (ne_of_none e hp)
  refine ⟨⟨L1.same s2, M2, ?_⟩, sH1.trans s2, made_none hl, made_none (b1.non _ hd), made_none (b1.non _ hm)⟩
  obtain ⟨dx1, hv, ws, h1, h2, h3, h4⟩ := L1
  exact ne_of_none h3 hm
theorem Same.non {H H' : Hp} (s : Same H H') {b : Addr} (h : H' b = none) : H b = none := by
  cases z : H b with
  | none => rfl
  | some o => rw [s _ _ z] at h; cases h
theorem imIns0 {H : Hp} {p dx C : Addr} {d : PyData} {v : V} (hp : H p = none) (hdx : H dx = none) (h : Im H d v) : Im (upd (upd H dx (.own p)) p (.ins C dx [])) d v := Same.im (same_made (C := C) hp hdx) h
/-! ### a lock is emptied -/
def LS.Inv (S : LS) : Prop := S.holder = none → S.waiting = []
theorem freeS_inv {S : LS} (t : Int × Int) (a : Int) (h : S.Inv) : (freeS S t a).1.Inv := by
  unfold freeS
  split
  · rename_i e
    intro _
    show S.left t a = []
    unfold LS.left
    rw [h e]; rfl
  · split
    · intro z; cases z
    · split
      · intro _; rfl
      · intro z; cases z
theorem askS_inv {S : LS} (w : Who) (h : S.Inv) : (askS S w).1.Inv := by
  have h2 := freeS_inv w.tr (w.2.2 - 1) h
  unfold askS
  split
  · intro z; cases z
  · split
    · intro z; cases z
    · exact h2
theorem finS_inv {S : LS} (w : Who) (v : Int) (h : S.Inv) : (finS S w v).1.Inv := by
  unfold finS
  split
  · exact h
  · exact freeS_inv (S := { S with value := v }) w.tr w.2.2 h
structure Emp (S0 : LS) (k : Nat) (S : LS) (held : List Who) : Prop where
  nd : S.waiting.Nodup
  sub : ∀ y ∈ S.waiting, y ∈ S0.waiting
  len : S.waiting.length ≤ S0.waiting.length
  srt : held.Pairwise fun a b => ltW b a = false
  mem : ∀ x ∈ held, x ∈ S0.waiting
  hl : held.length ≤ k
  cas : (S.holder = none ∧ S.waiting = [] ∧ S.turn = S0.turn + held.length) ∨ (k = 0 ∧ held = [] ∧ S.turn = S0.turn) ∨
    (0 < k ∧ ∃ h, S.holder = some h ∧ h ∈ S0.waiting ∧ S.turn = S0.turn + held.length + 1 ∧ (∀ x ∈ held, ltW h x = false) ∧ (∀ y ∈ S.waiting, ltW y h = false) ∧ S.waiting.length + k ≤ S0.waiting.length)
theorem Emp.start {S : LS} (h : S.waiting.Nodup) : Emp S 0 S [] :=
  ⟨h, fun _ e => e, Nat.le_refl _, List.Pairwise.nil, fun _ e => by simp at e, Nat.le_refl _, .inr (.inl ⟨rfl, rfl, rfl⟩)⟩
theorem filter_lt {α : Type} [DecidableEq α] {m : α} : ∀ {xs : List α}, m ∈ xs → (xs.filter fun x => decide (x ≠ m)).length < xs.length
  | [], h => by simp at h
  | x :: xs, h => by
    by_cases e : x = m
    · have := List.length_filter_le (fun x => decide (x ≠ m)) xs
      simp only [List.filter_cons, e, ne_eq, not_true, decide_false, Bool.false_eq_true, if_false, List.length_cons] at *
      omega
    · have := filter_lt (xs := xs) ((List.mem_cons.mp h).resolve_left fun z => e z.symm)
      simp only [List.filter_cons, e, ne_eq, not_false_eq_true, decide_true, if_true, List.length_cons] at *
      omega
theorem Emp.step {S0 S : LS} {k : Nat} {held : List Who} {h : Who} (E : Emp S0 k S held) (e : S.holder = some h) (x : Int) :
    Emp S0 (k + 1) (finS S h x).1 (if k > 0 then held ++ [h] else held) := by
  have hh : ∀ y ∈ (if k > 0 then held ++ [h] else held), y ∈ S0.waiting := by
    intro y hy
    split at hy
    · rcases List.mem_append.mp hy with hy | hy
      · exact E.mem y hy
      · rw [List.mem_singleton] at hy; subst hy
        rcases E.cas with c | c | ⟨_, h', c, d, _⟩
        · rw [c.1] at e; cases e
        · omega
        · rw [c] at e; cases e; exact d
    · exact E.mem y hy
  have hs : (if k > 0 then held ++ [h] else held).Pairwise fun a b => ltW b a = false := by
    split
    · refine List.pairwise_append.mpr ⟨E.srt, List.pairwise_singleton _ _, fun a ha b hb => ?_⟩
      rw [List.mem_singleton] at hb; subst hb
      rcases E.cas with c | c | ⟨_, h', c, _, _, d, _⟩
      · rw [c.1] at e; cases e
      · omega
      · rw [c] at e; cases e; exact d a ha
    · exact E.srt
  have hl : (if k > 0 then held ++ [h] else held).length ≤ k + 1 := by
    have := E.hl
    split
    · rw [List.length_append]; simp; omega
    · omega
  have ht : S.turn = S0.turn + (if k > 0 then held ++ [h] else held).length := by
    rcases E.cas with c | ⟨c, d, f⟩ | ⟨c, h', _, _, d, _⟩
    · rw [c.1] at e; cases e
    · rw [f, if_neg (by omega), d]; simp
    · rw [d, if_pos c, List.length_append]; simp; omega
  have hf : finS S h x = freeS { S with value := x } h.tr h.2.2 := by
    unfold finS; rw [if_neg (by rw [e]; simp)]
  have hL : ∀ y ∈ S.left h.tr h.2.2, y ∈ S.waiting := fun y hy => (List.mem_filter.mp hy).1
  have hLn : (S.left h.tr h.2.2).Nodup := E.nd.filter _
  have hLl : (S.left h.tr h.2.2).length ≤ S.waiting.length := List.length_filter_le _ _
  rw [hf]
  unfold freeS
  simp only [e, ne_eq, not_true, Int.lt_irrefl, or_self, if_false]
  rw [show LS.left { value := x, turn := S.turn, holder := some h, waiting := S.waiting } h.tr h.2.2 = S.left h.tr h.2.2 from rfl]
  cases hq : S.left h.tr h.2.2 with
  | nil => exact ⟨List.nodup_nil, fun _ z => by simp at z, by simp, hs, hh, hl, .inl ⟨rfl, rfl, ht⟩⟩
  | cons w ws =>
    show Emp S0 (k + 1) ⟨x, S.turn + 1, some (minW w ws), (w :: ws).filter fun x => decide (x ≠ minW w ws)⟩ _
    rw [hq] at hL hLn hLl
    have hnd : ((w :: ws).filter fun x => decide (x ≠ minW w ws)).Nodup := List.Pairwise.filter _ hLn
    have hm := minW_mem w ws
    have hlt := filter_lt hm
    refine ⟨hnd, fun y hy => E.sub y (hL y ((List.mem_filter.mp hy).1)), by have := E.len; show (List.filter _ _).length ≤ _; omega, hs, hh, hl, .inr (.inr ⟨by omega, minW w ws, rfl, E.sub _ (hL _ hm), ?_, ?_, ?_, ?_⟩)⟩
    · show S.turn + 1 = _; rw [ht]
    · intro y hy
      split at hy
      · rcases E.cas with c | c | ⟨_, h', c, _, _, d1, d2, _⟩
        · rw [c.1] at e; cases e
        · omega
        · rw [c] at e; cases e
          rcases List.mem_append.mp hy with hy | hy
          · exact ltW_tr (d1 y hy) (d2 _ (hL _ hm))
          · rw [List.mem_singleton] at hy; subst hy; exact d2 _ (hL _ hm)
      · rcases E.cas with c | c | ⟨c, _⟩
        · rw [c.1] at e; cases e
        · rw [c.2.1] at hy; simp at hy
        · omega
    · intro y hy
      exact minW_le w ws y ((List.mem_filter.mp hy).1)
    · show (List.filter _ _).length + (k + 1) ≤ _
      rcases E.cas with c | c | ⟨_, h', c, _, _, _, _, d⟩
      · rw [c.1] at e; cases e
      · have := E.len; omega
      · omega
theorem sortW_id {ws : List Who} (h : ws.Pairwise fun a b => ltW b a = false) : sortW ws = ws := by
  unfold sortW
  exact List.mergeSort_of_pairwise (h.imp fun {a b} e => by rw [e]; rfl)
theorem Emp.over {S0 S : LS} {k : Nat} {held : List Who} (E : Emp S0 k S held) (h : S.holder = none ∨ k = S0.waiting.length + 1) (hi : S.Inv) : S.holder = none ∧ S.waiting = [] ∧ S.turn = S0.turn + held.length := by
  rcases E.cas with c | ⟨c, d, f⟩ | ⟨c, h', e, _, _, _, _, d⟩
  · exact c
  · rcases h with h | h
    · exact ⟨h, hi h, by rw [d, f]; simp⟩
    · omega
  · rcases h with h | h
    · rw [h] at e; cases e
    · omega
theorem Loop.rangeB {lo : Int} {n : Nat} {g : TG} {tb : TS} {D : Ends} {σ : St} {H : Hp} (Pv : Nat → St → Hp → Prop) (R : St → Hp → Prop) (h0 : Pv 0 σ H) (hR : ∀ σ H, R σ H → D.nx σ H)
    (hs : ∀ i σ H, i < n → Pv i σ H → ∀ nx : St → Hp → Prop, (∀ σ H, R σ H → nx σ H) → g (.int (lo + i)) σ H fun σ2 H2 => tb { D with nx := Pv (i + 1), ct := Pv (i + 1), bk := nx } σ2 H2) (hd : ∀ σ H, Pv n σ H → R σ H) : Loop (Itr lo n) g tb D σ H :=
  Loop.range Pv h0 (fun i σ H hi hp => hs i σ H hi hp D.nx hR) fun σ H h => hR _ _ (hd _ _ h)
theorem Both.mid {C p l d m : Addr} {H4 H5 : Hp} {S : LS} (B4 : Both C H4 p l d m S) (b5 : Bt p l H4 H5) : ModAt H5 d m S ∧ Tk H4 H5 := by
  obtain ⟨dx4, hv4, ws4, hp4, ih4, hl4, iw4⟩ := id B4.lk
  obtain ⟨hv4', ws4', hd4, ihd4, hm4, iwm4⟩ := id B4.md
  have npd : p ≠ d := ne_id hp4 hd4
  have npm : p ≠ m := ne_il hp4 hm4
  have nld : l ≠ d := (ne_dl hd4 hl4).symm
  have tk5 := Bt.tk b5 hp4 hl4
  exact ⟨B4.md.keep tk5 fun b o e h => b5.keep b o e (h.elim (fun z => z ▸ npd.symm) fun z => z ▸ npm.symm) (h.elim (fun z => z ▸ nld.symm) fun z => z ▸ B4.ne.symm), tk5⟩
theorem Both.two {C p l d m l' m' : Addr} {H4 H5 H6 : Hp} {S S' : LS} (B4 : Both C H4 p l d m S) (L5 : LockAt C H5 p l' S') (hl5 : l' = l ∨ H4 l' = none) (b5 : Bt p l H4 H5)
    (M6 : ModAt H6 d m' S') (hm6 : m' = m ∨ H5 m' = none) (b6 : Bt d m H5 H6) : Both C H6 p l' d m' S' ∧ Tk H5 H6 := by
  obtain ⟨dx4, hv4, ws4, hp4, ih4, hl4, iw4⟩ := id B4.lk
  obtain ⟨hv4', ws4', hd4, ihd4, hm4, iwm4⟩ := id B4.md
  obtain ⟨dx5, hv5, ws5, hp5, ih5, hl5', iw5⟩ := id L5
  have npd : p ≠ d := ne_id hp4 hd4
  have npm : p ≠ m := ne_il hp4 hm4
  have nld : l ≠ d := (ne_dl hd4 hl4).symm
  have hd5 : H5 d = some (.dK (modF S.value S.turn hv4' m)) := b5.keep _ _ hd4 npd.symm nld.symm
  have hm5 : H5 m = some (.lst ws4') := b5.keep _ _ hm4 npm.symm B4.ne.symm
  have nl'd : l' ≠ d := (ne_dl hd5 hl5').symm
  have nl'm : l' ≠ m := by
    rcases hl5 with z | z
    · rw [z]; exact B4.ne
    · intro e; subst e; rw [hm4] at z; cases z
  have tk6 : Tk H5 H6 := BtD.tk b6 hd5 hm5
  refine ⟨⟨L5.keep tk6 fun b o e h => b6.keep b o e (h.elim (fun z => z ▸ npd) fun z => z ▸ nl'd) (h.elim (fun z => z ▸ npm) fun z => z ▸ nl'm), M6, ?_⟩, tk6⟩
  rcases hm6 with z | z
  · rw [z]; exact nl'm
  · intro e; subst e; rw [hl5'] at z; cases z
/-- behind both deeds: what else there was, stands -/
theorem two_keep {p l d m : Addr} {H4 H5 H6 : Hp} (b5 : Bt p l H4 H5) (b6 : Bt d m H5 H6) : ∀ b o, H4 b = some o → b ≠ p → b ≠ l → b ≠ d → b ≠ m → H6 b = some o :=
  fun b o e n1 n2 n3 n4 => b6.keep b o (b5.keep b o e n1 n2) n3 n4

local macro_rules | `(tactic| walk_at "hp") => `(tactic| first
  | assumption | exact upd_same | (refine get_new (by assumption) ?_; walk_at "hp") | (refine Gn.at (by assumption) ?_ (by assumption); walk_at "hp")
  | (refine (by assumption : Same _ _) _ _ ?_; walk_at "hp") | (refine get_ne (by assumption) ?_; walk_at "hp") | (refine get_ne (Ne.symm (by assumption)) ?_; walk_at "hp"))
local macro_rules | `(tactic| walk_at "im") => `(tactic| first
  | assumption | exact im_int | exact im_str | exact im_non | exact im_bool
  | (refine Gn.im (by assumption) ?_; walk_at "im") | (refine imNew (by assumption) ?_; walk_at "im") | (refine Same.im (by assumption) ?_; walk_at "im")
  | (refine imPut (by assumption) ?_; walk_at "im") | (refine imIns (by assumption) ?_; walk_at "im") | (refine imDk (by assumption) ?_; walk_at "im")
  | (refine im_tupNew (by assumption) ?_; walk_at "ims") | (refine im_tup (by assumption) ?_; walk_at "ims"))
local macro_rules | `(tactic| walk_at "ims") => `(tactic| first
  | assumption | exact im_nil | (refine Gn.ims (by assumption) ?_; walk_at "ims") | (refine imsNew (by assumption) ?_; walk_at "ims") | (refine Same.ims (by assumption) ?_; walk_at "ims")
  | (refine imsPut (by assumption) ?_; walk_at "ims") | (refine imsIns (by assumption) ?_; walk_at "ims") | (refine imsDk (by assumption) ?_; walk_at "ims") | (refine im_cons ?_ ?_; walk_at "im"; walk_at "ims"))

theorem ne_0_1 : (Str.ofString "_grant" = Str.ofString "_waiting") = False := eq_false (by decide +kernel)
theorem ne_0_1b : (Str.ofString "_grant" == Str.ofString "_waiting") = false := by decide +kernel
theorem ne_0_5 : (Str.ofString "_grant" = Str.ofString "holder") = False := eq_false (by decide +kernel)
theorem ne_0_5b : (Str.ofString "_grant" == Str.ofString "holder") = false := by decide +kernel
theorem ne_0_6 : (Str.ofString "_grant" = Str.ofString "turn") = False := eq_false (by decide +kernel)
theorem ne_0_6b : (Str.ofString "_grant" == Str.ofString "turn") = false := by decide +kernel
theorem ne_0_7 : (Str.ofString "_grant" = Str.ofString "value") = False := eq_false (by decide +kernel)
theorem ne_0_7b : (Str.ofString "_grant" == Str.ofString "value") = false := by decide +kernel
theorem ne_1_0 : (Str.ofString "_waiting" = Str.ofString "_grant") = False := eq_false (by decide +kernel)
theorem ne_1_0b : (Str.ofString "_waiting" == Str.ofString "_grant") = false := by decide +kernel
theorem ne_1_2 : (Str.ofString "_waiting" = Str.ofString "ask") = False := eq_false (by decide +kernel)
theorem ne_1_2b : (Str.ofString "_waiting" == Str.ofString "ask") = false := by decide +kernel
theorem ne_1_3 : (Str.ofString "_waiting" = Str.ofString "finish") = False := eq_false (by decide +kernel)
theorem ne_1_3b : (Str.ofString "_waiting" == Str.ofString "finish") = false := by decide +kernel
theorem ne_1_4 : (Str.ofString "_waiting" = Str.ofString "free") = False := eq_false (by decide +kernel)
theorem ne_1_4b : (Str.ofString "_waiting" == Str.ofString "free") = false := by decide +kernel
theorem ne_1_5 : (Str.ofString "_waiting" = Str.ofString "holder") = False := eq_false (by decide +kernel)
theorem ne_1_5b : (Str.ofString "_waiting" == Str.ofString "holder") = false := by decide +kernel
theorem ne_1_6 : (Str.ofString "_waiting" = Str.ofString "turn") = False := eq_false (by decide +kernel)
theorem ne_1_6b : (Str.ofString "_waiting" == Str.ofString "turn") = false := by decide +kernel
theorem ne_1_7 : (Str.ofString "_waiting" = Str.ofString "value") = False := eq_false (by decide +kernel)
theorem ne_1_7b : (Str.ofString "_waiting" == Str.ofString "value") = false := by decide +kernel
theorem ne_1_8 : (Str.ofString "_waiting" = Str.ofString "waiting") = False := eq_false (by decide +kernel)
theorem ne_1_8b : (Str.ofString "_waiting" == Str.ofString "waiting") = false := by decide +kernel
theorem ne_2_1 : (Str.ofString "ask" = Str.ofString "_waiting") = False := eq_false (by decide +kernel)
theorem ne_2_1b : (Str.ofString "ask" == Str.ofString "_waiting") = false := by decide +kernel
theorem ne_2_5 : (Str.ofString "ask" = Str.ofString "holder") = False := eq_false (by decide +kernel)
theorem ne_2_5b : (Str.ofString "ask" == Str.ofString "holder") = false := by decide +kernel
theorem ne_2_6 : (Str.ofString "ask" = Str.ofString "turn") = False := eq_false (by decide +kernel)
theorem ne_2_6b : (Str.ofString "ask" == Str.ofString "turn") = false := by decide +kernel
theorem ne_2_7 : (Str.ofString "ask" = Str.ofString "value") = False := eq_false (by decide +kernel)
theorem ne_2_7b : (Str.ofString "ask" == Str.ofString "value") = false := by decide +kernel
theorem ne_3_1 : (Str.ofString "finish" = Str.ofString "_waiting") = False := eq_false (by decide +kernel)
theorem ne_3_1b : (Str.ofString "finish" == Str.ofString "_waiting") = false := by decide +kernel
theorem ne_3_5 : (Str.ofString "finish" = Str.ofString "holder") = False := eq_false (by decide +kernel)
theorem ne_3_5b : (Str.ofString "finish" == Str.ofString "holder") = false := by decide +kernel
theorem ne_3_6 : (Str.ofString "finish" = Str.ofString "turn") = False := eq_false (by decide +kernel)
theorem ne_3_6b : (Str.ofString "finish" == Str.ofString "turn") = false := by decide +kernel
theorem ne_3_7 : (Str.ofString "finish" = Str.ofString "value") = False := eq_false (by decide +kernel)
theorem ne_3_7b : (Str.ofString "finish" == Str.ofString "value") = false := by decide +kernel
theorem ne_4_1 : (Str.ofString "free" = Str.ofString "_waiting") = False := eq_false (by decide +kernel)
theorem ne_4_1b : (Str.ofString "free" == Str.ofString "_waiting") = false := by decide +kernel
theorem ne_4_5 : (Str.ofString "free" = Str.ofString "holder") = False := eq_false (by decide +kernel)
theorem ne_4_5b : (Str.ofString "free" == Str.ofString "holder") = false := by decide +kernel
theorem ne_4_6 : (Str.ofString "free" = Str.ofString "turn") = False := eq_false (by decide +kernel)
theorem ne_4_6b : (Str.ofString "free" == Str.ofString "turn") = false := by decide +kernel
theorem ne_4_7 : (Str.ofString "free" = Str.ofString "value") = False := eq_false (by decide +kernel)
theorem ne_4_7b : (Str.ofString "free" == Str.ofString "value") = false := by decide +kernel
theorem ne_5_0 : (Str.ofString "holder" = Str.ofString "_grant") = False := eq_false (by decide +kernel)
theorem ne_5_0b : (Str.ofString "holder" == Str.ofString "_grant") = false := by decide +kernel
theorem ne_5_1 : (Str.ofString "holder" = Str.ofString "_waiting") = False := eq_false (by decide +kernel)
theorem ne_5_1b : (Str.ofString "holder" == Str.ofString "_waiting") = false := by decide +kernel
theorem ne_5_2 : (Str.ofString "holder" = Str.ofString "ask") = False := eq_false (by decide +kernel)
theorem ne_5_2b : (Str.ofString "holder" == Str.ofString "ask") = false := by decide +kernel
theorem ne_5_3 : (Str.ofString "holder" = Str.ofString "finish") = False := eq_false (by decide +kernel)
theorem ne_5_3b : (Str.ofString "holder" == Str.ofString "finish") = false := by decide +kernel
theorem ne_5_4 : (Str.ofString "holder" = Str.ofString "free") = False := eq_false (by decide +kernel)
theorem ne_5_4b : (Str.ofString "holder" == Str.ofString "free") = false := by decide +kernel
theorem ne_5_6 : (Str.ofString "holder" = Str.ofString "turn") = False := eq_false (by decide +kernel)
theorem ne_5_6b : (Str.ofString "holder" == Str.ofString "turn") = false := by decide +kernel
theorem ne_5_7 : (Str.ofString "holder" = Str.ofString "value") = False := eq_false (by decide +kernel)
theorem ne_5_7b : (Str.ofString "holder" == Str.ofString "value") = false := by decide +kernel
theorem ne_5_8 : (Str.ofString "holder" = Str.ofString "waiting") = False := eq_false (by decide +kernel)
theorem ne_5_8b : (Str.ofString "holder" == Str.ofString "waiting") = false := by decide +kernel
theorem ne_6_0 : (Str.ofString "turn" = Str.ofString "_grant") = False := eq_false (by decide +kernel)
theorem ne_6_0b : (Str.ofString "turn" == Str.ofString "_grant") = false := by decide +kernel
theorem ne_6_1 : (Str.ofString "turn" = Str.ofString "_waiting") = False := eq_false (by decide +kernel)
theorem ne_6_1b : (Str.ofString "turn" == Str.ofString "_waiting") = false := by decide +kernel
theorem ne_6_2 : (Str.ofString "turn" = Str.ofString "ask") = False := eq_false (by decide +kernel)
theorem ne_6_2b : (Str.ofString "turn" == Str.ofString "ask") = false := by decide +kernel
theorem ne_6_3 : (Str.ofString "turn" = Str.ofString "finish") = False := eq_false (by decide +kernel)
theorem ne_6_3b : (Str.ofString "turn" == Str.ofString "finish") = false := by decide +kernel
theorem ne_6_4 : (Str.ofString "turn" = Str.ofString "free") = False := eq_false (by decide +kernel)
theorem ne_6_4b : (Str.ofString "turn" == Str.ofString "free") = false := by decide +kernel
theorem ne_6_5 : (Str.ofString "turn" = Str.ofString "holder") = False := eq_false (by decide +kernel)
theorem ne_6_5b : (Str.ofString "turn" == Str.ofString "holder") = false := by decide +kernel
theorem ne_6_7 : (Str.ofString "turn" = Str.ofString "value") = False := eq_false (by decide +kernel)
theorem ne_6_7b : (Str.ofString "turn" == Str.ofString "value") = false := by decide +kernel
theorem ne_6_8 : (Str.ofString "turn" = Str.ofString "waiting") = False := eq_false (by decide +kernel)
theorem ne_6_8b : (Str.ofString "turn" == Str.ofString "waiting") = false := by decide +kernel
theorem ne_7_0 : (Str.ofString "value" = Str.ofString "_grant") = False := eq_false (by decide +kernel)
theorem ne_7_0b : (Str.ofString "value" == Str.ofString "_grant") = false := by decide +kernel
theorem ne_7_1 : (Str.ofString "value" = Str.ofString "_waiting") = False := eq_false (by decide +kernel)
theorem ne_7_1b : (Str.ofString "value" == Str.ofString "_waiting") = false := by decide +kernel
theorem ne_7_2 : (Str.ofString "value" = Str.ofString "ask") = False := eq_false (by decide +kernel)
theorem ne_7_2b : (Str.ofString "value" == Str.ofString "ask") = false := by decide +kernel
theorem ne_7_3 : (Str.ofString "value" = Str.ofString "finish") = False := eq_false (by decide +kernel)
theorem ne_7_3b : (Str.ofString "value" == Str.ofString "finish") = false := by decide +kernel
theorem ne_7_4 : (Str.ofString "value" = Str.ofString "free") = False := eq_false (by decide +kernel)
theorem ne_7_4b : (Str.ofString "value" == Str.ofString "free") = false := by decide +kernel
theorem ne_7_5 : (Str.ofString "value" = Str.ofString "holder") = False := eq_false (by decide +kernel)
theorem ne_7_5b : (Str.ofString "value" == Str.ofString "holder") = false := by decide +kernel
theorem ne_7_6 : (Str.ofString "value" = Str.ofString "turn") = False := eq_false (by decide +kernel)
theorem ne_7_6b : (Str.ofString "value" == Str.ofString "turn") = false := by decide +kernel
theorem ne_7_8 : (Str.ofString "value" = Str.ofString "waiting") = False := eq_false (by decide +kernel)
theorem ne_7_8b : (Str.ofString "value" == Str.ofString "waiting") = false := by decide +kernel
theorem ne_8_1 : (Str.ofString "waiting" = Str.ofString "_waiting") = False := eq_false (by decide +kernel)
theorem ne_8_1b : (Str.ofString "waiting" == Str.ofString "_waiting") = false := by decide +kernel
theorem ne_8_5 : (Str.ofString "waiting" = Str.ofString "holder") = False := eq_false (by decide +kernel)
theorem ne_8_5b : (Str.ofString "waiting" == Str.ofString "holder") = false := by decide +kernel
theorem ne_8_6 : (Str.ofString "waiting" = Str.ofString "turn") = False := eq_false (by decide +kernel)
theorem ne_8_6b : (Str.ofString "waiting" == Str.ofString "turn") = false := by decide +kernel
theorem ne_8_7 : (Str.ofString "waiting" = Str.ofString "value") = False := eq_false (by decide +kernel)
theorem ne_8_7b : (Str.ofString "waiting" == Str.ofString "value") = false := by decide +kernel
def top (i : Nat) : Stmt := PySem.Challenge.pw_ringloosed_k10_whole_locks_side_by_side.main.body.getD i (.Pass ⟨0, 0, 0, 0⟩)
abbrev s_Lock_init : Stmt := inClass (top 1) 0
abbrev N_Lock_init : List Str := ["self", "value", "turn", "holder"]
theorem sc_Lock_init : FnScope N_Lock_init ["self", "value", "turn", "holder"] (defScope s_Lock_init) := ⟨rfl, rfl, rfl, by decide +kernel, rfl, by decide +kernel, by decide +kernel⟩
abbrev s_Lock_waiting : Stmt := inClass (top 1) 1
abbrev N_Lock_waiting : List Str := ["self"]
theorem sc_Lock_waiting : FnScope N_Lock_waiting ["self"] (defScope s_Lock_waiting) := ⟨rfl, rfl, rfl, by decide +kernel, rfl, by decide +kernel, by decide +kernel⟩
abbrev s_Lock_ask : Stmt := inClass (top 1) 2
abbrev N_Lock_ask : List Str := ["self", "who", "transaction", "attempt", "granted"]
theorem sc_Lock_ask : FnScope N_Lock_ask ["self", "who"] (defScope s_Lock_ask) := ⟨rfl, rfl, rfl, by decide +kernel, rfl, by decide +kernel, by decide +kernel⟩
abbrev s_Lock_free : Stmt := inClass (top 1) 3
abbrev N_Lock_free : List Str := ["self", "transaction", "attempt", "who", "other"]
theorem sc_Lock_free : FnScope N_Lock_free ["self", "transaction", "attempt"] (defScope s_Lock_free) := ⟨rfl, rfl, rfl, by decide +kernel, rfl, by decide +kernel, by decide +kernel⟩
abbrev s_Lock_finish : Stmt := inClass (top 1) 4
abbrev N_Lock_finish : List Str := ["self", "who", "value"]
theorem sc_Lock_finish : FnScope N_Lock_finish ["self", "who", "value"] (defScope s_Lock_finish) := ⟨rfl, rfl, rfl, by decide +kernel, rfl, by decide +kernel, by decide +kernel⟩
abbrev s_Lock_grant : Stmt := inClass (top 1) 5
abbrev N_Lock_grant : List Str := ["self", "who"]
theorem sc_Lock_grant : FnScope N_Lock_grant ["self", "who"] (defScope s_Lock_grant) := ⟨rfl, rfl, rfl, by decide +kernel, rfl, by decide +kernel, by decide +kernel⟩
abbrev s_law_stream : Stmt := top 3
abbrev N_law_stream : List Str := ["_law_cell", "_law_k", "_law_digits"]
theorem sc_law_stream : FnScope N_law_stream ["_law_cell", "_law_k"] (defScope s_law_stream) := ⟨rfl, rfl, rfl, by decide +kernel, rfl, by decide +kernel, by decide +kernel⟩
abbrev s_law_next : Stmt := top 4
abbrev N_law_next : List Str := ["_law_stream_here", "_law_size", "_law_drawn"]
theorem sc_law_next : FnScope N_law_next ["_law_stream_here", "_law_size"] (defScope s_law_next) := ⟨rfl, rfl, rfl, by decide +kernel, rfl, by decide +kernel, by decide +kernel⟩
abbrev s_law_is : Stmt := top 5
abbrev N_law_is : List Str := ["_law_actual", "_law_due"]
theorem sc_law_is : FnScope N_law_is ["_law_actual", "_law_due"] (defScope s_law_is) := ⟨rfl, rfl, rfl, by decide +kernel, rfl, by decide +kernel, by decide +kernel⟩
abbrev s_law_who : Stmt := top 6
abbrev N_law_who : List Str := ["_law_stream_here", "_law_transaction"]
theorem sc_law_who : FnScope N_law_who ["_law_stream_here"] (defScope s_law_who) := ⟨rfl, rfl, rfl, by decide +kernel, rfl, by decide +kernel, by decide +kernel⟩
abbrev s_law_model : Stmt := top 7
abbrev N_law_model : List Str := ["_law_value", "_law_turn", "_law_holder"]
theorem sc_law_model : FnScope N_law_model ["_law_value", "_law_turn", "_law_holder"] (defScope s_law_model) := ⟨rfl, rfl, rfl, by decide +kernel, rfl, by decide +kernel, by decide +kernel⟩
abbrev s_law_free : Stmt := top 8
abbrev N_law_free : List Str := ["_law_model_here", "_law_transaction", "_law_attempt", "_law_holder", "_law_eldest", "_law_who_here"]
theorem sc_law_free : FnScope N_law_free ["_law_model_here", "_law_transaction", "_law_attempt"] (defScope s_law_free) := ⟨rfl, rfl, rfl, by decide +kernel, rfl, by decide +kernel, by decide +kernel⟩
abbrev s_law_ask : Stmt := top 9
abbrev N_law_ask : List Str := ["_law_model_here", "_law_who_here", "_law_granted"]
theorem sc_law_ask : FnScope N_law_ask ["_law_model_here", "_law_who_here"] (defScope s_law_ask) := ⟨rfl, rfl, rfl, by decide +kernel, rfl, by decide +kernel, by decide +kernel⟩
abbrev s_law_finish : Stmt := top 10
abbrev N_law_finish : List Str := ["_law_model_here", "_law_who_here", "_law_value"]
theorem sc_law_finish : FnScope N_law_finish ["_law_model_here", "_law_who_here", "_law_value"] (defScope s_law_finish) := ⟨rfl, rfl, rfl, by decide +kernel, rfl, by decide +kernel, by decide +kernel⟩
abbrev s_law_lock_is : Stmt := top 11
abbrev N_law_lock_is : List Str := ["_law_lock", "_law_model_here", "_law_told"]
theorem sc_law_lock_is : FnScope N_law_lock_is ["_law_lock", "_law_model_here"] (defScope s_law_lock_is) := ⟨rfl, rfl, rfl, by decide +kernel, rfl, by decide +kernel, by decide +kernel⟩
abbrev s_law_deed : Stmt := top 12
abbrev N_law_deed : List Str := ["_law_lock", "_law_model_here", "_law_stream_here", "_law_who_here", "_law_kind", "_law_attempt", "_law_value"]
theorem sc_law_deed : FnScope N_law_deed ["_law_lock", "_law_model_here", "_law_stream_here"] (defScope s_law_deed) := ⟨rfl, rfl, rfl, by decide +kernel, rfl, by decide +kernel, by decide +kernel⟩
abbrev s_law_emptied : Stmt := top 13
abbrev N_law_emptied : List Str := ["_law_lock", "_law_model_here", "_law_left", "_law_turn", "_law_held", "_law_k", "_law_told", "_law_who_here"]
theorem sc_law_emptied : FnScope N_law_emptied ["_law_lock", "_law_model_here"] (defScope s_law_emptied) := ⟨rfl, rfl, rfl, by decide +kernel, rfl, by decide +kernel, by decide +kernel⟩
abbrev s_law : Stmt := top 14
abbrev N_law : List Str := ["_law_script", "_law_locks", "_law_models", "_law_k", "_law_stream_here", "_law_which", "_law_told", "_law_due"]
theorem sc_law : FnScope N_law ["_law_script"] (defScope s_law) := ⟨rfl, rfl, rfl, by decide +kernel, rfl, by decide +kernel, by decide +kernel⟩
structure Txt (K : PySem.W.Frag) (mg : Str → Option Value) where
  C_Lock : Addr
  cl_Lock : Cls K C_Lock
  gC_Lock : mg "Lock" = some (.ref C_Lock)
  n_Lock_value : NoAttr K C_Lock "value"
  n_Lock_turn : NoAttr K C_Lock "turn"
  n_Lock_holder : NoAttr K C_Lock "holder"
  n_Lock_waiting : NoAttr K C_Lock "_waiting"
  f_Lock_init : Addr
  d_Lock_init : FuncData
  F_Lock_init : FunD K "__init__" "Lock.__init__" (defArgs s_Lock_init) (defBody s_Lock_init) (defScope s_Lock_init) [V.int 0, V.int 0, V.non] [] f_Lock_init d_Lock_init
  ds_Lock_init_1 : List Value
  dv_Lock_init_1 : Vals [V.int 0, V.int 0, V.non] ds_Lock_init_1
  b_Lock_init_1 : Binds K d_Lock_init ["self", "value", "turn", "holder"] ds_Lock_init_1
  M_Lock : Mk K C_Lock f_Lock_init
  f_Lock_waiting : Addr
  d_Lock_waiting : FuncData
  F_Lock_waiting : Fun K "waiting" "Lock.waiting" s_Lock_waiting f_Lock_waiting d_Lock_waiting
  b_Lock_waiting : Binds K d_Lock_waiting ["self"] []
  m_Lock_waiting : Meth K C_Lock "waiting" f_Lock_waiting
  f_Lock_ask : Addr
  d_Lock_ask : FuncData
  F_Lock_ask : Fun K "ask" "Lock.ask" s_Lock_ask f_Lock_ask d_Lock_ask
  b_Lock_ask : Binds K d_Lock_ask ["self", "who"] []
  m_Lock_ask : Meth K C_Lock "ask" f_Lock_ask
  f_Lock_free : Addr
  d_Lock_free : FuncData
  F_Lock_free : Fun K "free" "Lock.free" s_Lock_free f_Lock_free d_Lock_free
  b_Lock_free : Binds K d_Lock_free ["self", "transaction", "attempt"] []
  m_Lock_free : Meth K C_Lock "free" f_Lock_free
  f_Lock_finish : Addr
  d_Lock_finish : FuncData
  F_Lock_finish : Fun K "finish" "Lock.finish" s_Lock_finish f_Lock_finish d_Lock_finish
  b_Lock_finish : Binds K d_Lock_finish ["self", "who", "value"] []
  m_Lock_finish : Meth K C_Lock "finish" f_Lock_finish
  f_Lock_grant : Addr
  d_Lock_grant : FuncData
  F_Lock_grant : Fun K "_grant" "Lock._grant" s_Lock_grant f_Lock_grant d_Lock_grant
  b_Lock_grant : Binds K d_Lock_grant ["self", "who"] []
  m_Lock_grant : Meth K C_Lock "_grant" f_Lock_grant
  f_law_stream : Addr
  d_law_stream : FuncData
  F_law_stream : Fun K "_law_stream" "_law_stream" s_law_stream f_law_stream d_law_stream
  b_law_stream : Binds K d_law_stream ["_law_cell", "_law_k"] []
  g_law_stream : mg "_law_stream" = some (.ref f_law_stream)
  f_law_next : Addr
  d_law_next : FuncData
  F_law_next : Fun K "_law_next" "_law_next" s_law_next f_law_next d_law_next
  b_law_next : Binds K d_law_next ["_law_stream_here", "_law_size"] []
  g_law_next : mg "_law_next" = some (.ref f_law_next)
  f_law_is : Addr
  d_law_is : FuncData
  F_law_is : Fun K "_law_is" "_law_is" s_law_is f_law_is d_law_is
  b_law_is : Binds K d_law_is ["_law_actual", "_law_due"] []
  g_law_is : mg "_law_is" = some (.ref f_law_is)
  f_law_who : Addr
  d_law_who : FuncData
  F_law_who : Fun K "_law_who" "_law_who" s_law_who f_law_who d_law_who
  b_law_who : Binds K d_law_who ["_law_stream_here"] []
  g_law_who : mg "_law_who" = some (.ref f_law_who)
  f_law_model : Addr
  d_law_model : FuncData
  F_law_model : Fun K "_law_model" "_law_model" s_law_model f_law_model d_law_model
  b_law_model : Binds K d_law_model ["_law_value", "_law_turn", "_law_holder"] []
  g_law_model : mg "_law_model" = some (.ref f_law_model)
  f_law_free : Addr
  d_law_free : FuncData
  F_law_free : Fun K "_law_free" "_law_free" s_law_free f_law_free d_law_free
  b_law_free : Binds K d_law_free ["_law_model_here", "_law_transaction", "_law_attempt"] []
  g_law_free : mg "_law_free" = some (.ref f_law_free)
  f_law_ask : Addr
  d_law_ask : FuncData
  F_law_ask : Fun K "_law_ask" "_law_ask" s_law_ask f_law_ask d_law_ask
  b_law_ask : Binds K d_law_ask ["_law_model_here", "_law_who_here"] []
  g_law_ask : mg "_law_ask" = some (.ref f_law_ask)
  f_law_finish : Addr
  d_law_finish : FuncData
  F_law_finish : Fun K "_law_finish" "_law_finish" s_law_finish f_law_finish d_law_finish
  b_law_finish : Binds K d_law_finish ["_law_model_here", "_law_who_here", "_law_value"] []
  g_law_finish : mg "_law_finish" = some (.ref f_law_finish)
  f_law_lock_is : Addr
  d_law_lock_is : FuncData
  F_law_lock_is : Fun K "_law_lock_is" "_law_lock_is" s_law_lock_is f_law_lock_is d_law_lock_is
  b_law_lock_is : Binds K d_law_lock_is ["_law_lock", "_law_model_here"] []
  g_law_lock_is : mg "_law_lock_is" = some (.ref f_law_lock_is)
  f_law_deed : Addr
  d_law_deed : FuncData
  F_law_deed : Fun K "_law_deed" "_law_deed" s_law_deed f_law_deed d_law_deed
  b_law_deed : Binds K d_law_deed ["_law_lock", "_law_model_here", "_law_stream_here"] []
  g_law_deed : mg "_law_deed" = some (.ref f_law_deed)
  f_law_emptied : Addr
  d_law_emptied : FuncData
  F_law_emptied : Fun K "_law_emptied" "_law_emptied" s_law_emptied f_law_emptied d_law_emptied
  b_law_emptied : Binds K d_law_emptied ["_law_lock", "_law_model_here"] []
  g_law_emptied : mg "_law_emptied" = some (.ref f_law_emptied)
  f_law : Addr
  d_law : FuncData
  F_law : Fun K "law" "law" s_law f_law d_law
  b_law : Binds K d_law ["_law_script"] []
  g_law : mg "law" = some (.ref f_law)
  z_sorted : mg "sorted" = none
  z_min : mg "min" = none
  z_int : mg "int" = none
  z_isinstance : mg "isinstance" = none
  z_bool : mg "bool" = none
  z_list : mg "list" = none
  z_max : mg "max" = none
  z_range : mg "range" = none
  z_len : mg "len" = none
section
variable {P : Program} {w : World} {K : PySem.W.Frag} {mg : Str → Option Value} {base : Heap}
def spLaw (K : PySem.W.Frag) : Sp := fun vs H Q _ => ∃ (a : Addr) (ns : List Int), vs = [.ref a] ∧ SqL K H a (ns.map V.int) ∧ ns.length ≤ 63 ∧ ∀ H', Q (.bl true) H'
def sp_Lock_init (C : Addr) : Sp := fun vs H Q _ => ∃ (p dx : Addr) (v t : Int) (h : Option Who) (hv : V), vs = [.ref p, .int v, .int t, hv] ∧ H p = some (.ins C dx []) ∧ Im H (hD h) hv ∧
  ∀ (l : Addr) (H' : Hp), H l = none → LockAt C H' p l ⟨v, t, h, []⟩ → Bt p p H H' → Q .non H'
theorem ok_Lock_init (T : Txt K mg) : FnOk P w K mg base CX0 1 T.f_Lock_init T.d_Lock_init ["self", "value", "turn", "holder"] (sp_Lock_init T.C_Lock) := by
  refine FunD.ok (CX := CX0) T.F_Lock_init sc_Lock_init (fun vs H Q E h => ?_) (fun cdv A outer s H vs Q E hr h => ?_)
  · obtain ⟨p, dx, v, t, h, hv, rfl, hp, ih, kk⟩ := h; rfl
  · obtain ⟨p, dx, v, t, h, hv, rfl, hp, ih, kk⟩ := h
    have hu := hu_of hr
    refine ⟨_, (pss_cons (ps_fld (pv 0) (pv 1) rfl)
      (pss_cons (ps_fld (pv 0) (pv 2) rfl)
      (pss_cons (ps_fld (pv 0) (pv 3) rfl)
      (pss_one (ps_fld (pv 0) (pe_lst pa_nil) rfl))))), ?_⟩
    (try simp only [ne_0_1, ne_0_1b, ne_0_5, ne_0_5b, ne_0_6, ne_0_6b, ne_0_7, ne_0_7b, ne_1_0, ne_1_0b, ne_1_2, ne_1_2b, ne_1_3, ne_1_3b, ne_1_4, ne_1_4b, ne_1_5, ne_1_5b, ne_1_6, ne_1_6b, ne_1_7, ne_1_7b, ne_1_8, ne_1_8b, ne_2_1, ne_2_1b, ne_2_5, ne_2_5b, ne_2_6, ne_2_6b, ne_2_7, ne_2_7b, ne_3_1, ne_3_1b, ne_3_5, ne_3_5b, ne_3_6, ne_3_6b, ne_3_7, ne_3_7b, ne_4_1, ne_4_1b, ne_4_5, ne_4_5b, ne_4_6, ne_4_6b, ne_4_7, ne_4_7b, ne_5_0, ne_5_0b, ne_5_1, ne_5_1b, ne_5_2, ne_5_2b, ne_5_3, ne_5_3b, ne_5_4, ne_5_4b, ne_5_6, ne_5_6b, ne_5_7, ne_5_7b, ne_5_8, ne_5_8b, ne_6_0, ne_6_0b, ne_6_1, ne_6_1b, ne_6_2, ne_6_2b, ne_6_3, ne_6_3b, ne_6_4, ne_6_4b, ne_6_5, ne_6_5b, ne_6_7, ne_6_7b, ne_6_8, ne_6_8b, ne_7_0, ne_7_0b, ne_7_1, ne_7_1b, ne_7_2, ne_7_2b, ne_7_3, ne_7_3b, ne_7_4, ne_7_4b, ne_7_5, ne_7_5b, ne_7_6, ne_7_6b, ne_7_8, ne_7_8b, ne_8_1, ne_8_1b, ne_8_5, ne_8_5b, ne_8_6, ne_8_6b, ne_8_7, ne_8_7b, cxOf, Cx.nox, Cx.wish, tSeq, tAsg, tC, gName, tIfS, tTest, tOp, tUn, rU, rI0, rI, tVar, tNext, tBreak, tRet, tRetN, tDrop, tLst, tTup, tCons, tNil, tCB, tB, tOr, tAnd, tNot, tIf, tCall, tFor_eq, tLc_eq, iRng1, iRng2, iList, iTup, gTup, gTupH, gUnlH, gCons, gNil, gSub, rSetL, rIxL, rIxT, rIxLH, rIxTH, rSlTS, rCatS, rTupS, rIsiH, rLenS, V.ty.injEq, tyS_non, tyS_bl, tyS_int, tyS_str, tyS_ref, tyO_l, tyO_t, tyO_d, tyO_dt, kit_ll, kit_tt, kit_bb, kit_ii, kit_ib, kit_bi, kit_nt, kit_it, kit_st, kit_bt, kit_lt, kit_dt, kit_ni, kit_si, kit_ti, kit_li, kit_di, kit_nb, kit_ns, kit_is, kit_bs, kit_ss, kit_ts, kit_ls, kit_ds, kit_dd, lenS_ref, lenO_l, lenO_t,  rAppend, tM1, rIxS, tSl, tPart, tNoPart, tBM, tBM0, tDGetS, sDPutS, tTruS, truO_l, truO_t, truS_ref, truS_non, truS_bl, truS_int, tFld, sFld, sFldAug, rAdd, tMeth, tMake, tMakeK, List.take_succ_cons, List.take_zero, List.drop_succ_cons, List.drop_zero, List.take_nil, tIsN, tNotN, tAndV, tOrV, tNotV, putF, List.lookup, List.any_cons, List.any_nil, Sum.inr.injEq, HO.ins.injEq, HO.dK.injEq, eq_self, beq_self_eq_true, beq_iff_eq, decide_true, decide_false, Bool.or_true, Bool.true_or, Bool.or_false, Bool.false_or, tYes, rEq, rNe, _root_.L2.start, wipe, List.map_cons, List.map_nil, List.length_cons, List.length_nil, List.append_nil, Nat.reduceAdd, Nat.reduceSub, List.replicate_succ, List.replicate_zero, List.cons_append, List.nil_append, List.getElem?_cons_zero, List.getElem?_cons_succ, List.set_cons_zero, List.set_cons_succ, Option.some.injEq, V.int.injEq, V.ref.injEq, V.bl.injEq, V.str.injEq, List.cons.injEq, HO.lst.injEq, HO.tup.injEq, and_assoc, and_true, true_and, exists_eq_left, exists_eq_left', exists_and_left, exists_eq, reduceCtorEq, false_and, and_false, or_false, false_or, exists_false, decide_eq_true_eq, CPow, CDivW, Int.reducePow, Int.reduceLT, Int.reduceLE, Int.reduceNeg, Int.reduceToNat, Int.reduceAbs, Nat.reducePow, Nat.reduceLT, Nat.reduceLeDiff, sizeLine_eq, Int.reduceMul, Int.reduceAdd, Int.reduceSub, Bool.not_eq_true', decide_eq_false_iff_not, scal, Bool.not_true, Bool.not_false, Bool.true_eq_false, Bool.false_eq_true, ite_false, ite_true, if_true, if_false, ite_self, forall_const, atI0, atI1, atI2, atI3, ixN20, ixN21, upd_same, upd_upd, Int.zero_add, CMul, Int.reduceSub, Nat.le_refl, Nat.zero_le, or_true, true_or, exists_const, Int.sub_zero, hp, T.cl_Lock, T.n_Lock_value, T.n_Lock_turn, T.n_Lock_holder, T.n_Lock_waiting])
    intro q hq
    obtain ⟨nqp, hq'⟩ := upd_none hq
    (try simp only [ne_0_1, ne_0_1b, ne_0_5, ne_0_5b, ne_0_6, ne_0_6b, ne_0_7, ne_0_7b, ne_1_0, ne_1_0b, ne_1_2, ne_1_2b, ne_1_3, ne_1_3b, ne_1_4, ne_1_4b, ne_1_5, ne_1_5b, ne_1_6, ne_1_6b, ne_1_7, ne_1_7b, ne_1_8, ne_1_8b, ne_2_1, ne_2_1b, ne_2_5, ne_2_5b, ne_2_6, ne_2_6b, ne_2_7, ne_2_7b, ne_3_1, ne_3_1b, ne_3_5, ne_3_5b, ne_3_6, ne_3_6b, ne_3_7, ne_3_7b, ne_4_1, ne_4_1b, ne_4_5, ne_4_5b, ne_4_6, ne_4_6b, ne_4_7, ne_4_7b, ne_5_0, ne_5_0b, ne_5_1, ne_5_1b, ne_5_2, ne_5_2b, ne_5_3, ne_5_3b, ne_5_4, ne_5_4b, ne_5_6, ne_5_6b, ne_5_7, ne_5_7b, ne_5_8, ne_5_8b, ne_6_0, ne_6_0b, ne_6_1, ne_6_1b, ne_6_2, ne_6_2b, ne_6_3, ne_6_3b, ne_6_4, ne_6_4b, ne_6_5, ne_6_5b, ne_6_7, ne_6_7b, ne_6_8, ne_6_8b, ne_7_0, ne_7_0b, ne_7_1, ne_7_1b, ne_7_2, ne_7_2b, ne_7_3, ne_7_3b, ne_7_4, ne_7_4b, ne_7_5, ne_7_5b, ne_7_6, ne_7_6b, ne_7_8, ne_7_8b, ne_8_1, ne_8_1b, ne_8_5, ne_8_5b, ne_8_6, ne_8_6b, ne_8_7, ne_8_7b, cxOf, Cx.nox, Cx.wish, tSeq, tAsg, tC, gName, tIfS, tTest, tOp, tUn, rU, rI0, rI, tVar, tNext, tBreak, tRet, tRetN, tDrop, tLst, tTup, tCons, tNil, tCB, tB, tOr, tAnd, tNot, tIf, tCall, tFor_eq, tLc_eq, iRng1, iRng2, iList, iTup, gTup, gTupH, gUnlH, gCons, gNil, gSub, rSetL, rIxL, rIxT, rIxLH, rIxTH, rSlTS, rCatS, rTupS, rIsiH, rLenS, V.ty.injEq, tyS_non, tyS_bl, tyS_int, tyS_str, tyS_ref, tyO_l, tyO_t, tyO_d, tyO_dt, kit_ll, kit_tt, kit_bb, kit_ii, kit_ib, kit_bi, kit_nt, kit_it, kit_st, kit_bt, kit_lt, kit_dt, kit_ni, kit_si, kit_ti, kit_li, kit_di, kit_nb, kit_ns, kit_is, kit_bs, kit_ss, kit_ts, kit_ls, kit_ds, kit_dd, lenS_ref, lenO_l, lenO_t,  rAppend, tM1, rIxS, tSl, tPart, tNoPart, tBM, tBM0, tDGetS, sDPutS, tTruS, truO_l, truO_t, truS_ref, truS_non, truS_bl, truS_int, tFld, sFld, sFldAug, rAdd, tMeth, tMake, tMakeK, List.take_succ_cons, List.take_zero, List.drop_succ_cons, List.drop_zero, List.take_nil, tIsN, tNotN, tAndV, tOrV, tNotV, putF, List.lookup, List.any_cons, List.any_nil, Sum.inr.injEq, HO.ins.injEq, HO.dK.injEq, eq_self, beq_self_eq_true, beq_iff_eq, decide_true, decide_false, Bool.or_true, Bool.true_or, Bool.or_false, Bool.false_or, tYes, rEq, rNe, _root_.L2.start, wipe, List.map_cons, List.map_nil, List.length_cons, List.length_nil, List.append_nil, Nat.reduceAdd, Nat.reduceSub, List.replicate_succ, List.replicate_zero, List.cons_append, List.nil_append, List.getElem?_cons_zero, List.getElem?_cons_succ, List.set_cons_zero, List.set_cons_succ, Option.some.injEq, V.int.injEq, V.ref.injEq, V.bl.injEq, V.str.injEq, List.cons.injEq, HO.lst.injEq, HO.tup.injEq, and_assoc, and_true, true_and, exists_eq_left, exists_eq_left', exists_and_left, exists_eq, reduceCtorEq, false_and, and_false, or_false, false_or, exists_false, decide_eq_true_eq, CPow, CDivW, Int.reducePow, Int.reduceLT, Int.reduceLE, Int.reduceNeg, Int.reduceToNat, Int.reduceAbs, Nat.reducePow, Nat.reduceLT, Nat.reduceLeDiff, sizeLine_eq, Int.reduceMul, Int.reduceAdd, Int.reduceSub, Bool.not_eq_true', decide_eq_false_iff_not, scal, Bool.not_true, Bool.not_false, Bool.true_eq_false, Bool.false_eq_true, ite_false, ite_true, if_true, if_false, ite_self, forall_const, atI0, atI1, atI2, atI3, ixN20, ixN21, upd_same, upd_upd, Int.zero_add, CMul, Int.reduceSub, Nat.le_refl, Nat.zero_le, or_true, true_or, exists_const, Int.sub_zero, upd_ne nqp.symm, T.cl_Lock, T.n_Lock_waiting])
    refine kk q _ hq' ⟨dx, hv, [], upd_same, ?_, ?_, im_nil⟩ (Bt.putP (Bt.new (Bt.putP (Bt.refl _ _ _)) hq))
    · have h1 : Im (upd H p (.ins T.C_Lock dx [(Str.ofString "value", V.int v), (Str.ofString "turn", V.int t), (Str.ofString "holder", hv)])) (hD h) hv := imIns hp ih
      exact Im.mono (Tk.putI (by rw [upd_ne nqp.symm]; exact upd_same)) _ _ (imNew hq h1)
    · rw [upd_ne nqp]; exact upd_same
def sp_Lock_waiting (C : Addr) : Sp := fun vs H Q _ => ∃ (p l : Addr) (S : LS), vs = [.ref p] ∧ LockAt C H p l S ∧ ∀ (q : Addr) (zs : List V) (H' : Hp), H q = none → Same H H' → (∀ b, b ≠ q → H' b = H b) → H' q = some (.lst zs) → ImAll H' ((sortW S.waiting).map wD) zs → Q (.ref q) H'
theorem ok_Lock_waiting (T : Txt K mg) : FnOk P w K mg base CX0 1 T.f_Lock_waiting T.d_Lock_waiting ["self"] (sp_Lock_waiting T.C_Lock) := by
  refine Fun.ok T.F_Lock_waiting sc_Lock_waiting (fun vs H Q E h => ?_) (fun cdv A outer s H vs Q E hr h => ?_)
  · obtain ⟨p, l, S, rfl, ⟨dx, hv, ws, hp, ih, hl, iw⟩, kk⟩ := h; rfl
  · obtain ⟨p, l, S, rfl, ⟨dx, hv, ws, hp, ih, hl, iw⟩, kk⟩ := h
    have hu := hu_of hr
    refine ⟨_, (pss_one (ps_ret (pe_callB (call_sortD (hu65 hr)) (by rfl) T.z_sorted (by decide +kernel) (pa_cons (pe_fld (pv 0) rfl) pa_nil)))), ?_⟩
    (try simp only [ne_0_1, ne_0_1b, ne_0_5, ne_0_5b, ne_0_6, ne_0_6b, ne_0_7, ne_0_7b, ne_1_0, ne_1_0b, ne_1_2, ne_1_2b, ne_1_3, ne_1_3b, ne_1_4, ne_1_4b, ne_1_5, ne_1_5b, ne_1_6, ne_1_6b, ne_1_7, ne_1_7b, ne_1_8, ne_1_8b, ne_2_1, ne_2_1b, ne_2_5, ne_2_5b, ne_2_6, ne_2_6b, ne_2_7, ne_2_7b, ne_3_1, ne_3_1b, ne_3_5, ne_3_5b, ne_3_6, ne_3_6b, ne_3_7, ne_3_7b, ne_4_1, ne_4_1b, ne_4_5, ne_4_5b, ne_4_6, ne_4_6b, ne_4_7, ne_4_7b, ne_5_0, ne_5_0b, ne_5_1, ne_5_1b, ne_5_2, ne_5_2b, ne_5_3, ne_5_3b, ne_5_4, ne_5_4b, ne_5_6, ne_5_6b, ne_5_7, ne_5_7b, ne_5_8, ne_5_8b, ne_6_0, ne_6_0b, ne_6_1, ne_6_1b, ne_6_2, ne_6_2b, ne_6_3, ne_6_3b, ne_6_4, ne_6_4b, ne_6_5, ne_6_5b, ne_6_7, ne_6_7b, ne_6_8, ne_6_8b, ne_7_0, ne_7_0b, ne_7_1, ne_7_1b, ne_7_2, ne_7_2b, ne_7_3, ne_7_3b, ne_7_4, ne_7_4b, ne_7_5, ne_7_5b, ne_7_6, ne_7_6b, ne_7_8, ne_7_8b, ne_8_1, ne_8_1b, ne_8_5, ne_8_5b, ne_8_6, ne_8_6b, ne_8_7, ne_8_7b, cxOf, Cx.nox, Cx.wish, tSeq, tAsg, tC, gName, tIfS, tTest, tOp, tUn, rU, rI0, rI, tVar, tNext, tBreak, tRet, tRetN, tDrop, tLst, tTup, tCons, tNil, tCB, tB, tOr, tAnd, tNot, tIf, tCall, tFor_eq, tLc_eq, iRng1, iRng2, iList, iTup, gTup, gTupH, gUnlH, gCons, gNil, gSub, rSetL, rIxL, rIxT, rIxLH, rIxTH, rSlTS, rCatS, rTupS, rIsiH, rLenS, V.ty.injEq, tyS_non, tyS_bl, tyS_int, tyS_str, tyS_ref, tyO_l, tyO_t, tyO_d, tyO_dt, kit_ll, kit_tt, kit_bb, kit_ii, kit_ib, kit_bi, kit_nt, kit_it, kit_st, kit_bt, kit_lt, kit_dt, kit_ni, kit_si, kit_ti, kit_li, kit_di, kit_nb, kit_ns, kit_is, kit_bs, kit_ss, kit_ts, kit_ls, kit_ds, kit_dd, lenS_ref, lenO_l, lenO_t,  rAppend, tM1, rIxS, tSl, tPart, tNoPart, tBM, tBM0, tDGetS, sDPutS, tTruS, truO_l, truO_t, truS_ref, truS_non, truS_bl, truS_int, tFld, sFld, sFldAug, rAdd, tMeth, tMake, tMakeK, List.take_succ_cons, List.take_zero, List.drop_succ_cons, List.drop_zero, List.take_nil, tIsN, tNotN, tAndV, tOrV, tNotV, putF, List.lookup, List.any_cons, List.any_nil, Sum.inr.injEq, HO.ins.injEq, HO.dK.injEq, eq_self, beq_self_eq_true, beq_iff_eq, decide_true, decide_false, Bool.or_true, Bool.true_or, Bool.or_false, Bool.false_or, tYes, rEq, rNe, _root_.L2.start, wipe, List.map_cons, List.map_nil, List.length_cons, List.length_nil, List.append_nil, Nat.reduceAdd, Nat.reduceSub, List.replicate_succ, List.replicate_zero, List.cons_append, List.nil_append, List.getElem?_cons_zero, List.getElem?_cons_succ, List.set_cons_zero, List.set_cons_succ, Option.some.injEq, V.int.injEq, V.ref.injEq, V.bl.injEq, V.str.injEq, List.cons.injEq, HO.lst.injEq, HO.tup.injEq, and_assoc, and_true, true_and, exists_eq_left, exists_eq_left', exists_and_left, exists_eq, reduceCtorEq, false_and, and_false, or_false, false_or, exists_false, decide_eq_true_eq, CPow, CDivW, Int.reducePow, Int.reduceLT, Int.reduceLE, Int.reduceNeg, Int.reduceToNat, Int.reduceAbs, Nat.reducePow, Nat.reduceLT, Nat.reduceLeDiff, sizeLine_eq, Int.reduceMul, Int.reduceAdd, Int.reduceSub, Bool.not_eq_true', decide_eq_false_iff_not, scal, Bool.not_true, Bool.not_false, Bool.true_eq_false, Bool.false_eq_true, ite_false, ite_true, if_true, if_false, ite_self, forall_const, atI0, atI1, atI2, atI3, ixN20, ixN21, upd_same, upd_upd, Int.zero_add, CMul, Int.reduceSub, Nat.le_refl, Nat.zero_le, or_true, true_or, exists_const, Int.sub_zero, hp, T.cl_Lock, T.n_Lock_waiting, lockF, rSortD, hl])
    exact ⟨_, iw, wDs_alike _, wDs_sortable _, wDs_depth _, fun q zs H' hq s nb hz iz => kk q zs H' hq s nb hz (by rw [← sortW_map]; exact iz)⟩
def sp_Lock_grant (C : Addr) : Sp := fun vs H Q _ => ∃ (p l : Addr) (S : LS) (w : Who) (v : V), vs = [.ref p, v] ∧ LockAt C H p l S ∧ Im H (wD w) v ∧ ∀ (H' : Hp), LockAt C H' p l ⟨S.value, S.turn + 1, some w, S.waiting⟩ → Bt p p H H' → Q .non H'
theorem ok_Lock_grant (T : Txt K mg) : FnOk P w K mg base CX0 1 T.f_Lock_grant T.d_Lock_grant ["self", "who"] (sp_Lock_grant T.C_Lock) := by
  refine Fun.ok T.F_Lock_grant sc_Lock_grant (fun vs H Q E h => ?_) (fun cdv A outer s H vs Q E hr h => ?_)
  · obtain ⟨p, l, S, w', v, rfl, ⟨dx, hv, ws, hp, ih, hl, iw⟩, iv, kk⟩ := h; rfl
  · obtain ⟨p, l, S, w', v, rfl, ⟨dx, hv, ws, hp, ih, hl, iw⟩, iv, kk⟩ := h
    have hu := hu_of hr
    refine ⟨_, (pss_cons (ps_fldaug (pv 0) pe_int in_add)
      (pss_one (ps_fld (pv 0) (pv 1) rfl))), ?_⟩
    (try simp only [ne_0_1, ne_0_1b, ne_0_5, ne_0_5b, ne_0_6, ne_0_6b, ne_0_7, ne_0_7b, ne_1_0, ne_1_0b, ne_1_2, ne_1_2b, ne_1_3, ne_1_3b, ne_1_4, ne_1_4b, ne_1_5, ne_1_5b, ne_1_6, ne_1_6b, ne_1_7, ne_1_7b, ne_1_8, ne_1_8b, ne_2_1, ne_2_1b, ne_2_5, ne_2_5b, ne_2_6, ne_2_6b, ne_2_7, ne_2_7b, ne_3_1, ne_3_1b, ne_3_5, ne_3_5b, ne_3_6, ne_3_6b, ne_3_7, ne_3_7b, ne_4_1, ne_4_1b, ne_4_5, ne_4_5b, ne_4_6, ne_4_6b, ne_4_7, ne_4_7b, ne_5_0, ne_5_0b, ne_5_1, ne_5_1b, ne_5_2, ne_5_2b, ne_5_3, ne_5_3b, ne_5_4, ne_5_4b, ne_5_6, ne_5_6b, ne_5_7, ne_5_7b, ne_5_8, ne_5_8b, ne_6_0, ne_6_0b, ne_6_1, ne_6_1b, ne_6_2, ne_6_2b, ne_6_3, ne_6_3b, ne_6_4, ne_6_4b, ne_6_5, ne_6_5b, ne_6_7, ne_6_7b, ne_6_8, ne_6_8b, ne_7_0, ne_7_0b, ne_7_1, ne_7_1b, ne_7_2, ne_7_2b, ne_7_3, ne_7_3b, ne_7_4, ne_7_4b, ne_7_5, ne_7_5b, ne_7_6, ne_7_6b, ne_7_8, ne_7_8b, ne_8_1, ne_8_1b, ne_8_5, ne_8_5b, ne_8_6, ne_8_6b, ne_8_7, ne_8_7b, cxOf, Cx.nox, Cx.wish, tSeq, tAsg, tC, gName, tIfS, tTest, tOp, tUn, rU, rI0, rI, tVar, tNext, tBreak, tRet, tRetN, tDrop, tLst, tTup, tCons, tNil, tCB, tB, tOr, tAnd, tNot, tIf, tCall, tFor_eq, tLc_eq, iRng1, iRng2, iList, iTup, gTup, gTupH, gUnlH, gCons, gNil, gSub, rSetL, rIxL, rIxT, rIxLH, rIxTH, rSlTS, rCatS, rTupS, rIsiH, rLenS, V.ty.injEq, tyS_non, tyS_bl, tyS_int, tyS_str, tyS_ref, tyO_l, tyO_t, tyO_d, tyO_dt, kit_ll, kit_tt, kit_bb, kit_ii, kit_ib, kit_bi, kit_nt, kit_it, kit_st, kit_bt, kit_lt, kit_dt, kit_ni, kit_si, kit_ti, kit_li, kit_di, kit_nb, kit_ns, kit_is, kit_bs, kit_ss, kit_ts, kit_ls, kit_ds, kit_dd, lenS_ref, lenO_l, lenO_t,  rAppend, tM1, rIxS, tSl, tPart, tNoPart, tBM, tBM0, tDGetS, sDPutS, tTruS, truO_l, truO_t, truS_ref, truS_non, truS_bl, truS_int, tFld, sFld, sFldAug, rAdd, tMeth, tMake, tMakeK, List.take_succ_cons, List.take_zero, List.drop_succ_cons, List.drop_zero, List.take_nil, tIsN, tNotN, tAndV, tOrV, tNotV, putF, List.lookup, List.any_cons, List.any_nil, Sum.inr.injEq, HO.ins.injEq, HO.dK.injEq, eq_self, beq_self_eq_true, beq_iff_eq, decide_true, decide_false, Bool.or_true, Bool.true_or, Bool.or_false, Bool.false_or, tYes, rEq, rNe, _root_.L2.start, wipe, List.map_cons, List.map_nil, List.length_cons, List.length_nil, List.append_nil, Nat.reduceAdd, Nat.reduceSub, List.replicate_succ, List.replicate_zero, List.cons_append, List.nil_append, List.getElem?_cons_zero, List.getElem?_cons_succ, List.set_cons_zero, List.set_cons_succ, Option.some.injEq, V.int.injEq, V.ref.injEq, V.bl.injEq, V.str.injEq, List.cons.injEq, HO.lst.injEq, HO.tup.injEq, and_assoc, and_true, true_and, exists_eq_left, exists_eq_left', exists_and_left, exists_eq, reduceCtorEq, false_and, and_false, or_false, false_or, exists_false, decide_eq_true_eq, CPow, CDivW, Int.reducePow, Int.reduceLT, Int.reduceLE, Int.reduceNeg, Int.reduceToNat, Int.reduceAbs, Nat.reducePow, Nat.reduceLT, Nat.reduceLeDiff, sizeLine_eq, Int.reduceMul, Int.reduceAdd, Int.reduceSub, Bool.not_eq_true', decide_eq_false_iff_not, scal, Bool.not_true, Bool.not_false, Bool.true_eq_false, Bool.false_eq_true, ite_false, ite_true, if_true, if_false, ite_self, forall_const, atI0, atI1, atI2, atI3, ixN20, ixN21, upd_same, upd_upd, Int.zero_add, CMul, Int.reduceSub, Nat.le_refl, Nat.zero_le, or_true, true_or, exists_const, Int.sub_zero, hp, T.cl_Lock, T.n_Lock_turn, T.n_Lock_holder, lockF])
    have npl := ne_il hp hl
    exact kk _ ⟨dx, v, ws, upd_same, imIns hp iv, get_ne npl.symm hl, imsIns hp iw⟩ (Bt.putP (Bt.refl _ _ _))
def sp_law_stream : Sp := fun vs H Q _ => ∃ c k : Int, vs = [.int c, .int k] ∧ ∀ (p : Addr) (H' : Hp), H p = none → St2 H' p → Same H H' → (∀ b, b ≠ p → H' b = H b) → Q (.ref p) H'
theorem ok_law_stream (T : Txt K mg) : FnOk P w K mg base CX0 1 T.f_law_stream T.d_law_stream ["_law_cell", "_law_k"] (sp_law_stream) := by
  refine Fun.ok T.F_law_stream sc_law_stream (fun vs H Q E h => ?_) (fun cdv A outer s H vs Q E hr h => ?_)
  · obtain ⟨c, k, rfl, kk⟩ := h; rfl
  · obtain ⟨c, k, rfl, kk⟩ := h
    have hu := hu_of hr
    refine ⟨_, (pss_cons (ps_set (i := 2) sc_law_stream.nd rfl (Or.inl rfl) pe_int)
      (pss_cons (ps_if (pt_cmpR op_ge (pv 0) (pe_op op_pow pe_int pe_int) (nomark _)) (pss_one (ps_set (i := 2) sc_law_stream.nd rfl (Or.inl rfl) (pv 0))) pss_nil)
      (pss_one (ps_ret (pe_lst (pa_cons (pv 2) (pa_cons (pe_op op_mod (pe_callTy call_int1 (by rfl) T.z_int (by decide +kernel) (pa_cons (pe_op op_add (pe_op op_add (pe_op op_mul (pv 0) pe_int) (pe_op op_mul (pv 1) pe_int)) pe_int) pa_nil)) pe_int) pa_nil))))))), ?_⟩
    (try simp only [ne_0_1, ne_0_1b, ne_0_5, ne_0_5b, ne_0_6, ne_0_6b, ne_0_7, ne_0_7b, ne_1_0, ne_1_0b, ne_1_2, ne_1_2b, ne_1_3, ne_1_3b, ne_1_4, ne_1_4b, ne_1_5, ne_1_5b, ne_1_6, ne_1_6b, ne_1_7, ne_1_7b, ne_1_8, ne_1_8b, ne_2_1, ne_2_1b, ne_2_5, ne_2_5b, ne_2_6, ne_2_6b, ne_2_7, ne_2_7b, ne_3_1, ne_3_1b, ne_3_5, ne_3_5b, ne_3_6, ne_3_6b, ne_3_7, ne_3_7b, ne_4_1, ne_4_1b, ne_4_5, ne_4_5b, ne_4_6, ne_4_6b, ne_4_7, ne_4_7b, ne_5_0, ne_5_0b, ne_5_1, ne_5_1b, ne_5_2, ne_5_2b, ne_5_3, ne_5_3b, ne_5_4, ne_5_4b, ne_5_6, ne_5_6b, ne_5_7, ne_5_7b, ne_5_8, ne_5_8b, ne_6_0, ne_6_0b, ne_6_1, ne_6_1b, ne_6_2, ne_6_2b, ne_6_3, ne_6_3b, ne_6_4, ne_6_4b, ne_6_5, ne_6_5b, ne_6_7, ne_6_7b, ne_6_8, ne_6_8b, ne_7_0, ne_7_0b, ne_7_1, ne_7_1b, ne_7_2, ne_7_2b, ne_7_3, ne_7_3b, ne_7_4, ne_7_4b, ne_7_5, ne_7_5b, ne_7_6, ne_7_6b, ne_7_8, ne_7_8b, ne_8_1, ne_8_1b, ne_8_5, ne_8_5b, ne_8_6, ne_8_6b, ne_8_7, ne_8_7b, cxOf, Cx.nox, Cx.wish, tSeq, tAsg, tC, gName, tIfS, tTest, tOp, tUn, rU, rI0, rI, tVar, tNext, tBreak, tRet, tRetN, tDrop, tLst, tTup, tCons, tNil, tCB, tB, tOr, tAnd, tNot, tIf, tCall, tFor_eq, tLc_eq, iRng1, iRng2, iList, iTup, gTup, gTupH, gUnlH, gCons, gNil, gSub, rSetL, rIxL, rIxT, rIxLH, rIxTH, rSlTS, rCatS, rTupS, rIsiH, rLenS, V.ty.injEq, tyS_non, tyS_bl, tyS_int, tyS_str, tyS_ref, tyO_l, tyO_t, tyO_d, tyO_dt, kit_ll, kit_tt, kit_bb, kit_ii, kit_ib, kit_bi, kit_nt, kit_it, kit_st, kit_bt, kit_lt, kit_dt, kit_ni, kit_si, kit_ti, kit_li, kit_di, kit_nb, kit_ns, kit_is, kit_bs, kit_ss, kit_ts, kit_ls, kit_ds, kit_dd, lenS_ref, lenO_l, lenO_t,  rAppend, tM1, rIxS, tSl, tPart, tNoPart, tBM, tBM0, tDGetS, sDPutS, tTruS, truO_l, truO_t, truS_ref, truS_non, truS_bl, truS_int, tFld, sFld, sFldAug, rAdd, tMeth, tMake, tMakeK, List.take_succ_cons, List.take_zero, List.drop_succ_cons, List.drop_zero, List.take_nil, tIsN, tNotN, tAndV, tOrV, tNotV, putF, List.lookup, List.any_cons, List.any_nil, Sum.inr.injEq, HO.ins.injEq, HO.dK.injEq, eq_self, beq_self_eq_true, beq_iff_eq, decide_true, decide_false, Bool.or_true, Bool.true_or, Bool.or_false, Bool.false_or, tYes, rEq, rNe, _root_.L2.start, wipe, List.map_cons, List.map_nil, List.length_cons, List.length_nil, List.append_nil, Nat.reduceAdd, Nat.reduceSub, List.replicate_succ, List.replicate_zero, List.cons_append, List.nil_append, List.getElem?_cons_zero, List.getElem?_cons_succ, List.set_cons_zero, List.set_cons_succ, Option.some.injEq, V.int.injEq, V.ref.injEq, V.bl.injEq, V.str.injEq, List.cons.injEq, HO.lst.injEq, HO.tup.injEq, and_assoc, and_true, true_and, exists_eq_left, exists_eq_left', exists_and_left, exists_eq, reduceCtorEq, false_and, and_false, or_false, false_or, exists_false, decide_eq_true_eq, CPow, CDivW, Int.reducePow, Int.reduceLT, Int.reduceLE, Int.reduceNeg, Int.reduceToNat, Int.reduceAbs, Nat.reducePow, Nat.reduceLT, Nat.reduceLeDiff, sizeLine_eq, Int.reduceMul, Int.reduceAdd, Int.reduceSub, Bool.not_eq_true', decide_eq_false_iff_not, scal, Bool.not_true, Bool.not_false, Bool.true_eq_false, Bool.false_eq_true, ite_false, ite_true, if_true, if_false, ite_self, forall_const, atI0, atI1, atI2, atI3, ixN20, ixN21, upd_same, upd_upd, Int.zero_add, CMul, Int.reduceSub, Nat.le_refl, Nat.zero_le, or_true, true_or, exists_const, Int.sub_zero])
    split
    all_goals exact fun p hp => kk p _ hp ⟨_, _, upd_same⟩ (same_new hp) (fun b hb => upd_ne hb)
def sp_law_next : Sp := fun vs H Q _ => ∃ (p : Addr) (n : Int), vs = [.ref p, .int n] ∧ St2 H p ∧ 0 < n ∧ n ≤ 1000000000000000000 ∧ ∀ (v : Int) (H' : Hp), 0 ≤ v → v < n → Gn p H H' → Q (.int v) H'
theorem ok_law_next (T : Txt K mg) : FnOk P w K mg base CX0 1 T.f_law_next T.d_law_next ["_law_stream_here", "_law_size"] (sp_law_next) := by
  refine Fun.ok T.F_law_next sc_law_next (fun vs H Q E h => ?_) (fun cdv A outer s H vs Q E hr h => ?_)
  · obtain ⟨p, n, rfl, ⟨d, r, hp⟩, n0, n1, kk⟩ := h; rfl
  · obtain ⟨p, n, rfl, ⟨d, r, hp⟩, n0, n1, kk⟩ := h
    have hu := hu_of hr
    refine ⟨_, (pss_cons (ps_if (pt_cmpR op_gt (pe_ix ix_listH (pv 0) pe_int (fun _ _ => rfl)) pe_int (nomark _)) (pss_cons (ps_set (i := 2) sc_law_next.nd rfl (Or.inl rfl) (pe_op op_mod (pe_callTy call_int1 (by rfl) T.z_int (by decide +kernel) (pa_cons (pe_ix ix_listH (pv 0) pe_int (fun _ _ => rfl)) pa_nil)) (pv 1)))
      (pss_cons (ps_asg (pe_op op_fdivW (pe_ix ix_listH (pv 0) pe_int (fun _ _ => rfl)) (pv 1)) (pg_sub (pv 0) pe_int set_list))
      (pss_one (ps_ret (pv 2))))) pss_nil)
      (pss_cons (ps_asg (pe_op op_mod (pe_callTy call_int1 (by rfl) T.z_int (by decide +kernel) (pa_cons (pe_op op_add (pe_op op_mul (pe_ix ix_listH (pv 0) pe_int (fun _ _ => rfl)) pe_int) pe_int) pa_nil)) pe_int) (pg_sub (pv 0) pe_int set_list))
      (pss_one (ps_ret (pe_op op_mod (pe_callTy call_int1 (by rfl) T.z_int (by decide +kernel) (pa_cons (pe_op op_fdivW (pe_op op_mod (pe_callTy call_int1 (by rfl) T.z_int (by decide +kernel) (pa_cons (pe_op op_add (pe_op op_mul (pe_ix ix_listH (pv 0) pe_int (fun _ _ => rfl)) pe_int) pe_int) pa_nil)) pe_int) pe_int) pa_nil)) (pv 1)))))), ?_⟩
    have hl : n.natAbs.log2 < 9000 := Nat.lt_of_lt_of_le (PySem.Flt.log2_lt_of (k := 64) (by decide) (by omega)) (by decide)
    (try simp only [ne_0_1, ne_0_1b, ne_0_5, ne_0_5b, ne_0_6, ne_0_6b, ne_0_7, ne_0_7b, ne_1_0, ne_1_0b, ne_1_2, ne_1_2b, ne_1_3, ne_1_3b, ne_1_4, ne_1_4b, ne_1_5, ne_1_5b, ne_1_6, ne_1_6b, ne_1_7, ne_1_7b, ne_1_8, ne_1_8b, ne_2_1, ne_2_1b, ne_2_5, ne_2_5b, ne_2_6, ne_2_6b, ne_2_7, ne_2_7b, ne_3_1, ne_3_1b, ne_3_5, ne_3_5b, ne_3_6, ne_3_6b, ne_3_7, ne_3_7b, ne_4_1, ne_4_1b, ne_4_5, ne_4_5b, ne_4_6, ne_4_6b, ne_4_7, ne_4_7b, ne_5_0, ne_5_0b, ne_5_1, ne_5_1b, ne_5_2, ne_5_2b, ne_5_3, ne_5_3b, ne_5_4, ne_5_4b, ne_5_6, ne_5_6b, ne_5_7, ne_5_7b, ne_5_8, ne_5_8b, ne_6_0, ne_6_0b, ne_6_1, ne_6_1b, ne_6_2, ne_6_2b, ne_6_3, ne_6_3b, ne_6_4, ne_6_4b, ne_6_5, ne_6_5b, ne_6_7, ne_6_7b, ne_6_8, ne_6_8b, ne_7_0, ne_7_0b, ne_7_1, ne_7_1b, ne_7_2, ne_7_2b, ne_7_3, ne_7_3b, ne_7_4, ne_7_4b, ne_7_5, ne_7_5b, ne_7_6, ne_7_6b, ne_7_8, ne_7_8b, ne_8_1, ne_8_1b, ne_8_5, ne_8_5b, ne_8_6, ne_8_6b, ne_8_7, ne_8_7b, cxOf, Cx.nox, Cx.wish, tSeq, tAsg, tC, gName, tIfS, tTest, tOp, tUn, rU, rI0, rI, tVar, tNext, tBreak, tRet, tRetN, tDrop, tLst, tTup, tCons, tNil, tCB, tB, tOr, tAnd, tNot, tIf, tCall, tFor_eq, tLc_eq, iRng1, iRng2, iList, iTup, gTup, gTupH, gUnlH, gCons, gNil, gSub, rSetL, rIxL, rIxT, rIxLH, rIxTH, rSlTS, rCatS, rTupS, rIsiH, rLenS, V.ty.injEq, tyS_non, tyS_bl, tyS_int, tyS_str, tyS_ref, tyO_l, tyO_t, tyO_d, tyO_dt, kit_ll, kit_tt, kit_bb, kit_ii, kit_ib, kit_bi, kit_nt, kit_it, kit_st, kit_bt, kit_lt, kit_dt, kit_ni, kit_si, kit_ti, kit_li, kit_di, kit_nb, kit_ns, kit_is, kit_bs, kit_ss, kit_ts, kit_ls, kit_ds, kit_dd, lenS_ref, lenO_l, lenO_t,  rAppend, tM1, rIxS, tSl, tPart, tNoPart, tBM, tBM0, tDGetS, sDPutS, tTruS, truO_l, truO_t, truS_ref, truS_non, truS_bl, truS_int, tFld, sFld, sFldAug, rAdd, tMeth, tMake, tMakeK, List.take_succ_cons, List.take_zero, List.drop_succ_cons, List.drop_zero, List.take_nil, tIsN, tNotN, tAndV, tOrV, tNotV, putF, List.lookup, List.any_cons, List.any_nil, Sum.inr.injEq, HO.ins.injEq, HO.dK.injEq, eq_self, beq_self_eq_true, beq_iff_eq, decide_true, decide_false, Bool.or_true, Bool.true_or, Bool.or_false, Bool.false_or, tYes, rEq, rNe, _root_.L2.start, wipe, List.map_cons, List.map_nil, List.length_cons, List.length_nil, List.append_nil, Nat.reduceAdd, Nat.reduceSub, List.replicate_succ, List.replicate_zero, List.cons_append, List.nil_append, List.getElem?_cons_zero, List.getElem?_cons_succ, List.set_cons_zero, List.set_cons_succ, Option.some.injEq, V.int.injEq, V.ref.injEq, V.bl.injEq, V.str.injEq, List.cons.injEq, HO.lst.injEq, HO.tup.injEq, and_assoc, and_true, true_and, exists_eq_left, exists_eq_left', exists_and_left, exists_eq, reduceCtorEq, false_and, and_false, or_false, false_or, exists_false, decide_eq_true_eq, CPow, CDivW, Int.reducePow, Int.reduceLT, Int.reduceLE, Int.reduceNeg, Int.reduceToNat, Int.reduceAbs, Nat.reducePow, Nat.reduceLT, Nat.reduceLeDiff, sizeLine_eq, Int.reduceMul, Int.reduceAdd, Int.reduceSub, Bool.not_eq_true', decide_eq_false_iff_not, scal, Bool.not_true, Bool.not_false, Bool.true_eq_false, Bool.false_eq_true, ite_false, ite_true, if_true, if_false, ite_self, forall_const, atI0, atI1, atI2, atI3, ixN20, ixN21, upd_same, upd_upd, Int.zero_add, CMul, Int.reduceSub, Nat.le_refl, Nat.zero_le, or_true, true_or, exists_const, Int.sub_zero, hp])
    split
    · exact ⟨n0, n0, hl, kk _ _ (Int.emod_nonneg _ (by omega)) (Int.emod_lt_of_pos _ n0) (Gn.upd ⟨d, r, hp⟩)⟩
    · exact ⟨by decide, n0, kk _ _ (Int.emod_nonneg _ (by omega)) (Int.emod_lt_of_pos _ n0) (Gn.upd ⟨d, r, hp⟩)⟩
def sp_law_is : Sp := fun vs H Q _ => ∃ (x y : Int), vs = [.int x, .int y] ∧ Q (.bl (decide (x = y))) H
theorem ok_law_is (T : Txt K mg) : FnOk P w K mg base CX0 1 T.f_law_is T.d_law_is ["_law_actual", "_law_due"] (sp_law_is) := by
  refine Fun.ok T.F_law_is sc_law_is (fun vs H Q E h => ?_) (fun cdv A outer s H vs Q E hr h => ?_)
  · obtain ⟨x, y, rfl, kk⟩ := h; rfl
  · obtain ⟨x, y, rfl, kk⟩ := h
    have hu := hu_of hr
    refine ⟨_, (pss_one (ps_ret (pe_and (pe_callB call_isiH (by rfl) T.z_isinstance (by decide +kernel) (pa_cons (pv 0) (pa_cons (pe_bltn (v := .ty "int") (by rfl) T.z_int (by decide +kernel) rfl) pa_nil))) (pe_and (pe_not (pe_callB call_isiH (by rfl) T.z_isinstance (by decide +kernel) (pa_cons (pv 0) (pa_cons (pe_bltn (v := .ty "bool") (by rfl) T.z_bool (by decide +kernel) rfl) pa_nil)))) (pe_one (pe_cmpR op_eq (pv 0) (pv 1) (nomark _))))))), ?_⟩
    (try simp only [ne_0_1, ne_0_1b, ne_0_5, ne_0_5b, ne_0_6, ne_0_6b, ne_0_7, ne_0_7b, ne_1_0, ne_1_0b, ne_1_2, ne_1_2b, ne_1_3, ne_1_3b, ne_1_4, ne_1_4b, ne_1_5, ne_1_5b, ne_1_6, ne_1_6b, ne_1_7, ne_1_7b, ne_1_8, ne_1_8b, ne_2_1, ne_2_1b, ne_2_5, ne_2_5b, ne_2_6, ne_2_6b, ne_2_7, ne_2_7b, ne_3_1, ne_3_1b, ne_3_5, ne_3_5b, ne_3_6, ne_3_6b, ne_3_7, ne_3_7b, ne_4_1, ne_4_1b, ne_4_5, ne_4_5b, ne_4_6, ne_4_6b, ne_4_7, ne_4_7b, ne_5_0, ne_5_0b, ne_5_1, ne_5_1b, ne_5_2, ne_5_2b, ne_5_3, ne_5_3b, ne_5_4, ne_5_4b, ne_5_6, ne_5_6b, ne_5_7, ne_5_7b, ne_5_8, ne_5_8b, ne_6_0, ne_6_0b, ne_6_1, ne_6_1b, ne_6_2, ne_6_2b, ne_6_3, ne_6_3b, ne_6_4, ne_6_4b, ne_6_5, ne_6_5b, ne_6_7, ne_6_7b, ne_6_8, ne_6_8b, ne_7_0, ne_7_0b, ne_7_1, ne_7_1b, ne_7_2, ne_7_2b, ne_7_3, ne_7_3b, ne_7_4, ne_7_4b, ne_7_5, ne_7_5b, ne_7_6, ne_7_6b, ne_7_8, ne_7_8b, ne_8_1, ne_8_1b, ne_8_5, ne_8_5b, ne_8_6, ne_8_6b, ne_8_7, ne_8_7b, cxOf, Cx.nox, Cx.wish, tSeq, tAsg, tC, gName, tIfS, tTest, tOp, tUn, rU, rI0, rI, tVar, tNext, tBreak, tRet, tRetN, tDrop, tLst, tTup, tCons, tNil, tCB, tB, tOr, tAnd, tNot, tIf, tCall, tFor_eq, tLc_eq, iRng1, iRng2, iList, iTup, gTup, gTupH, gUnlH, gCons, gNil, gSub, rSetL, rIxL, rIxT, rIxLH, rIxTH, rSlTS, rCatS, rTupS, rIsiH, rLenS, V.ty.injEq, tyS_non, tyS_bl, tyS_int, tyS_str, tyS_ref, tyO_l, tyO_t, tyO_d, tyO_dt, kit_ll, kit_tt, kit_bb, kit_ii, kit_ib, kit_bi, kit_nt, kit_it, kit_st, kit_bt, kit_lt, kit_dt, kit_ni, kit_si, kit_ti, kit_li, kit_di, kit_nb, kit_ns, kit_is, kit_bs, kit_ss, kit_ts, kit_ls, kit_ds, kit_dd, lenS_ref, lenO_l, lenO_t,  rAppend, tM1, rIxS, tSl, tPart, tNoPart, tBM, tBM0, tDGetS, sDPutS, tTruS, truO_l, truO_t, truS_ref, truS_non, truS_bl, truS_int, tFld, sFld, sFldAug, rAdd, tMeth, tMake, tMakeK, List.take_succ_cons, List.take_zero, List.drop_succ_cons, List.drop_zero, List.take_nil, tIsN, tNotN, tAndV, tOrV, tNotV, putF, List.lookup, List.any_cons, List.any_nil, Sum.inr.injEq, HO.ins.injEq, HO.dK.injEq, eq_self, beq_self_eq_true, beq_iff_eq, decide_true, decide_false, Bool.or_true, Bool.true_or, Bool.or_false, Bool.false_or, tYes, rEq, rNe, _root_.L2.start, wipe, List.map_cons, List.map_nil, List.length_cons, List.length_nil, List.append_nil, Nat.reduceAdd, Nat.reduceSub, List.replicate_succ, List.replicate_zero, List.cons_append, List.nil_append, List.getElem?_cons_zero, List.getElem?_cons_succ, List.set_cons_zero, List.set_cons_succ, Option.some.injEq, V.int.injEq, V.ref.injEq, V.bl.injEq, V.str.injEq, List.cons.injEq, HO.lst.injEq, HO.tup.injEq, and_assoc, and_true, true_and, exists_eq_left, exists_eq_left', exists_and_left, exists_eq, reduceCtorEq, false_and, and_false, or_false, false_or, exists_false, decide_eq_true_eq, CPow, CDivW, Int.reducePow, Int.reduceLT, Int.reduceLE, Int.reduceNeg, Int.reduceToNat, Int.reduceAbs, Nat.reducePow, Nat.reduceLT, Nat.reduceLeDiff, sizeLine_eq, Int.reduceMul, Int.reduceAdd, Int.reduceSub, Bool.not_eq_true', decide_eq_false_iff_not, scal, Bool.not_true, Bool.not_false, Bool.true_eq_false, Bool.false_eq_true, ite_false, ite_true, if_true, if_false, ite_self, forall_const, atI0, atI1, atI2, atI3, ixN20, ixN21, upd_same, upd_upd, Int.zero_add, CMul, Int.reduceSub, Nat.le_refl, Nat.zero_le, or_true, true_or, exists_const, Int.sub_zero])
    exact kk
def sp_law_model : Sp := fun vs H Q _ => ∃ (v t : Int) (h : Option Who) (hv : V), vs = [.int v, .int t, hv] ∧ Im H (hD h) hv ∧ ∀ (d m : Addr) (H' : Hp), H d = none → H m = none → ModAt H' d m ⟨v, t, h, []⟩ → Same H H' → Q (.ref d) H'
theorem ok_law_model (T : Txt K mg) : FnOk P w K mg base CX0 1 T.f_law_model T.d_law_model ["_law_value", "_law_turn", "_law_holder"] (sp_law_model) := by
  refine Fun.ok T.F_law_model sc_law_model (fun vs H Q E h => ?_) (fun cdv A outer s H vs Q E hr h => ?_)
  · obtain ⟨v, t, h, hv, rfl, ih, kk⟩ := h; rfl
  · obtain ⟨v, t, h, hv, rfl, ih, kk⟩ := h
    have hu := hu_of hr
    refine ⟨_, (pss_one (ps_ret (pe_disp (pps_cons pe_str (pv 0) (pps_cons pe_str (pv 1) (pps_cons pe_str (pv 2) (pps_cons pe_str (pe_lst pa_nil) pps_nil)))) (by rfl) (by rfl) (fun z => by cases z) (by decide)))), ?_⟩
    (try simp only [ne_0_1, ne_0_1b, ne_0_5, ne_0_5b, ne_0_6, ne_0_6b, ne_0_7, ne_0_7b, ne_1_0, ne_1_0b, ne_1_2, ne_1_2b, ne_1_3, ne_1_3b, ne_1_4, ne_1_4b, ne_1_5, ne_1_5b, ne_1_6, ne_1_6b, ne_1_7, ne_1_7b, ne_1_8, ne_1_8b, ne_2_1, ne_2_1b, ne_2_5, ne_2_5b, ne_2_6, ne_2_6b, ne_2_7, ne_2_7b, ne_3_1, ne_3_1b, ne_3_5, ne_3_5b, ne_3_6, ne_3_6b, ne_3_7, ne_3_7b, ne_4_1, ne_4_1b, ne_4_5, ne_4_5b, ne_4_6, ne_4_6b, ne_4_7, ne_4_7b, ne_5_0, ne_5_0b, ne_5_1, ne_5_1b, ne_5_2, ne_5_2b, ne_5_3, ne_5_3b, ne_5_4, ne_5_4b, ne_5_6, ne_5_6b, ne_5_7, ne_5_7b, ne_5_8, ne_5_8b, ne_6_0, ne_6_0b, ne_6_1, ne_6_1b, ne_6_2, ne_6_2b, ne_6_3, ne_6_3b, ne_6_4, ne_6_4b, ne_6_5, ne_6_5b, ne_6_7, ne_6_7b, ne_6_8, ne_6_8b, ne_7_0, ne_7_0b, ne_7_1, ne_7_1b, ne_7_2, ne_7_2b, ne_7_3, ne_7_3b, ne_7_4, ne_7_4b, ne_7_5, ne_7_5b, ne_7_6, ne_7_6b, ne_7_8, ne_7_8b, ne_8_1, ne_8_1b, ne_8_5, ne_8_5b, ne_8_6, ne_8_6b, ne_8_7, ne_8_7b, cxOf, Cx.nox, Cx.wish, tSeq, tAsg, tC, gName, tIfS, tTest, tOp, tUn, rU, rI0, rI, tVar, tNext, tBreak, tRet, tRetN, tDrop, tLst, tTup, tCons, tNil, tCB, tB, tOr, tAnd, tNot, tIf, tCall, tFor_eq, tLc_eq, iRng1, iRng2, iList, iTup, gTup, gTupH, gUnlH, gCons, gNil, gSub, rSetL, rIxL, rIxT, rIxLH, rIxTH, rSlTS, rCatS, rTupS, rIsiH, rLenS, V.ty.injEq, tyS_non, tyS_bl, tyS_int, tyS_str, tyS_ref, tyO_l, tyO_t, tyO_d, tyO_dt, kit_ll, kit_tt, kit_bb, kit_ii, kit_ib, kit_bi, kit_nt, kit_it, kit_st, kit_bt, kit_lt, kit_dt, kit_ni, kit_si, kit_ti, kit_li, kit_di, kit_nb, kit_ns, kit_is, kit_bs, kit_ss, kit_ts, kit_ls, kit_ds, kit_dd, lenS_ref, lenO_l, lenO_t,  rAppend, tM1, rIxS, tSl, tPart, tNoPart, tBM, tBM0, tDGetS, sDPutS, tTruS, truO_l, truO_t, truS_ref, truS_non, truS_bl, truS_int, tFld, sFld, sFldAug, rAdd, tMeth, tMake, tMakeK, List.take_succ_cons, List.take_zero, List.drop_succ_cons, List.drop_zero, List.take_nil, tIsN, tNotN, tAndV, tOrV, tNotV, putF, List.lookup, List.any_cons, List.any_nil, Sum.inr.injEq, HO.ins.injEq, HO.dK.injEq, eq_self, beq_self_eq_true, beq_iff_eq, decide_true, decide_false, Bool.or_true, Bool.true_or, Bool.or_false, Bool.false_or, tYes, rEq, rNe, _root_.L2.start, wipe, List.map_cons, List.map_nil, List.length_cons, List.length_nil, List.append_nil, Nat.reduceAdd, Nat.reduceSub, List.replicate_succ, List.replicate_zero, List.cons_append, List.nil_append, List.getElem?_cons_zero, List.getElem?_cons_succ, List.set_cons_zero, List.set_cons_succ, Option.some.injEq, V.int.injEq, V.ref.injEq, V.bl.injEq, V.str.injEq, List.cons.injEq, HO.lst.injEq, HO.tup.injEq, and_assoc, and_true, true_and, exists_eq_left, exists_eq_left', exists_and_left, exists_eq, reduceCtorEq, false_and, and_false, or_false, false_or, exists_false, decide_eq_true_eq, CPow, CDivW, Int.reducePow, Int.reduceLT, Int.reduceLE, Int.reduceNeg, Int.reduceToNat, Int.reduceAbs, Nat.reducePow, Nat.reduceLT, Nat.reduceLeDiff, sizeLine_eq, Int.reduceMul, Int.reduceAdd, Int.reduceSub, Bool.not_eq_true', decide_eq_false_iff_not, scal, Bool.not_true, Bool.not_false, Bool.true_eq_false, Bool.false_eq_true, ite_false, ite_true, if_true, if_false, ite_self, forall_const, atI0, atI1, atI2, atI3, ixN20, ixN21, upd_same, upd_upd, Int.zero_add, CMul, Int.reduceSub, Nat.le_refl, Nat.zero_le, or_true, true_or, exists_const, Int.sub_zero, tDisp, tPairs])
    intro d hd m hm
    obtain ⟨nmd, hm'⟩ := upd_none hm
    have e1 : upd (upd H d (.dK [])) m (.lst []) d = some (.dK []) := by rw [upd_ne nmd.symm]; exact upd_same
    refine ⟨e1, modF v t hv m, rfl, by rw [modF_len]; decide, ?_⟩
    rw [modF_merge]
    have s1 : Same H (upd (upd H d (.dK [])) m (.lst [])) := fun b o e => get_new hm (get_new hd e)
    have s2 : Same H (upd (upd (upd H d (.dK [])) m (.lst [])) d (.dK (modF v t hv m))) := fun b o e => get_ne (ne_of_none e hd) (s1 b o e)
    exact kk d m _ hd hm' ⟨hv, [], upd_same, Same.im s2 ih, get_ne nmd upd_same, im_nil⟩ s2
def sp_law_free : Sp := fun vs H Q _ => ∃ (d m : Addr) (S : LS) (t : Int × Int) (a : Int) (tv : V), vs = [.ref d, tv, .int a] ∧ ModAt H d m S ∧ Im H (tD t) tv ∧ S.waiting.length ≤ 1000 ∧ S.waiting.Nodup ∧
  ∀ (m' q : Addr) (zs : List V) (H' : Hp), ModAt H' d m' (freeS S t a).1 → H m' = none → H q = none → q ≠ m' → H' q = some (.lst zs) → ImAll H' ((freeS S t a).2.map wD) zs → Bt d m H H' → Q (.ref q) H'
theorem ok_law_free (T : Txt K mg) : FnOk P w K mg base CX0 1 T.f_law_free T.d_law_free ["_law_model_here", "_law_transaction", "_law_attempt"] (sp_law_free) := by
  refine Fun.ok T.F_law_free sc_law_free (fun vs H Q E h => ?_) (fun cdv A outer s H vs Q E hr h => ?_)
  · obtain ⟨p, l, S, t, a, tv, rfl, ⟨hv, ws, hp, ih, hl, iw⟩, it, hlen, hnd, kk⟩ := h; rfl
  · obtain ⟨p, l, S, t, a, tv, rfl, ⟨hv, ws, hp, ih, hl, iw⟩, it, hlen, hnd, kk⟩ := h
    have hu := hu_of hr
    refine ⟨_, (pss_cons (ps_dputS hu (pv 0) pe_str (pe_lc (own := [("_law_who_here", 5)]) (g := gName 5) rfl sc_law_free.nd (pi_list (pe_dgetS hu (pv 0) pe_str (fun _ _ => rfl))) (blkOk_by (N := N_law_free) (sc := defScope s_law_free) (by decide +kernel)) (fun _ _ _ _ _ => (pg_name (i := 5) sc_law_free.nd rfl (Or.inl rfl))) (fun _ _ _ _ _ => (pts_one (pt_not (PW.pt (pw_and (pt_cmpR (op_eqDK (K := K) rfl hr.units) (pe_ix ix_tupH (pv 5) pe_int (fun _ _ => rfl)) (pv 1) (nomark _)) (pw_and1 (pt_cmpR op_le (pe_ix ix_tupH (pv 5) pe_int (fun _ _ => rfl)) (pv 2) (nomark _)))))))) (fun _ _ _ _ _ => (pv 5))) rfl)
      (pss_cons (ps_set (i := 3) sc_law_free.nd rfl (Or.inl rfl) (pe_dgetS hu (pv 0) pe_str (fun _ _ => rfl)))
      (pss_cons (ps_if (PW.pt (pw_or (pt_cmp (pc_isN (pv 3))) (pw_or (pt_cmpR (op_neDK (K := K) rfl hr.units) (pe_ix ix_tupH (pv 3) pe_int (fun _ _ => rfl)) (pv 1) (nomark _)) (pw_or1 (pt_cmpR op_gt (pe_ix ix_tupH (pv 3) pe_int (fun _ _ => rfl)) (pv 2) (nomark _)))))) (pss_one (ps_ret (pe_lst pa_nil))) pss_nil)
      (pss_cons (ps_dputS hu (pv 0) pe_str pe_non rfl)
      (pss_cons (ps_if (pt_cmpR (op_eqDK (K := K) rfl hr.units) (pe_dgetS hu (pv 0) pe_str (fun _ _ => rfl)) (pe_lst pa_nil) (nomark _)) (pss_one (ps_ret (pe_lst pa_nil))) pss_nil)
      (pss_cons (ps_set (i := 4) sc_law_free.nd rfl (Or.inl rfl) (pe_ix ix_listH (pe_callB (call_sortD (hu65 hr)) (by rfl) T.z_sorted (by decide +kernel) (pa_cons (pe_dgetS hu (pv 0) pe_str (fun _ _ => rfl)) pa_nil)) pe_int (fun _ _ => rfl)))
      (pss_cons (ps_expr (pe_bm PySem.F.plainAttrs_list PySem.F.slot_list_remove PySem.F.type_list_remove (mt_remD (hu65 hr)) (pe_dgetS hu (pv 0) pe_str (fun _ _ => rfl)) (pa_cons (pv 4) pa_nil)))
      (pss_cons (ps_dputS hu (pv 0) pe_str (pv 4) rfl)
      (pss_cons (ps_dputS hu (pv 0) pe_str (pe_op op_add (pe_dgetS hu (pv 0) pe_str (fun _ _ => rfl)) pe_int) rfl)
      (pss_one (ps_ret (pe_lst (pa_cons (pv 4) pa_nil))))))))))))), ?_⟩
    have hwl := iw.len
    rw [List.length_map] at hwl
    (try simp only [ne_0_1, ne_0_1b, ne_0_5, ne_0_5b, ne_0_6, ne_0_6b, ne_0_7, ne_0_7b, ne_1_0, ne_1_0b, ne_1_2, ne_1_2b, ne_1_3, ne_1_3b, ne_1_4, ne_1_4b, ne_1_5, ne_1_5b, ne_1_6, ne_1_6b, ne_1_7, ne_1_7b, ne_1_8, ne_1_8b, ne_2_1, ne_2_1b, ne_2_5, ne_2_5b, ne_2_6, ne_2_6b, ne_2_7, ne_2_7b, ne_3_1, ne_3_1b, ne_3_5, ne_3_5b, ne_3_6, ne_3_6b, ne_3_7, ne_3_7b, ne_4_1, ne_4_1b, ne_4_5, ne_4_5b, ne_4_6, ne_4_6b, ne_4_7, ne_4_7b, ne_5_0, ne_5_0b, ne_5_1, ne_5_1b, ne_5_2, ne_5_2b, ne_5_3, ne_5_3b, ne_5_4, ne_5_4b, ne_5_6, ne_5_6b, ne_5_7, ne_5_7b, ne_5_8, ne_5_8b, ne_6_0, ne_6_0b, ne_6_1, ne_6_1b, ne_6_2, ne_6_2b, ne_6_3, ne_6_3b, ne_6_4, ne_6_4b, ne_6_5, ne_6_5b, ne_6_7, ne_6_7b, ne_6_8, ne_6_8b, ne_7_0, ne_7_0b, ne_7_1, ne_7_1b, ne_7_2, ne_7_2b, ne_7_3, ne_7_3b, ne_7_4, ne_7_4b, ne_7_5, ne_7_5b, ne_7_6, ne_7_6b, ne_7_8, ne_7_8b, ne_8_1, ne_8_1b, ne_8_5, ne_8_5b, ne_8_6, ne_8_6b, ne_8_7, ne_8_7b, cxOf, Cx.nox, Cx.wish, tSeq, tAsg, tC, gName, tIfS, tTest, tOp, tUn, rU, rI0, rI, tVar, tNext, tBreak, tRet, tRetN, tDrop, tLst, tTup, tCons, tNil, tCB, tB, tOr, tAnd, tNot, tIf, tCall, tFor_eq, tLc_eq, iRng1, iRng2, iList, iTup, gTup, gTupH, gUnlH, gCons, gNil, gSub, rSetL, rIxL, rIxT, rIxLH, rIxTH, rSlTS, rCatS, rTupS, rIsiH, rLenS, V.ty.injEq, tyS_non, tyS_bl, tyS_int, tyS_str, tyS_ref, tyO_l, tyO_t, tyO_d, tyO_dt, kit_ll, kit_tt, kit_bb, kit_ii, kit_ib, kit_bi, kit_nt, kit_it, kit_st, kit_bt, kit_lt, kit_dt, kit_ni, kit_si, kit_ti, kit_li, kit_di, kit_nb, kit_ns, kit_is, kit_bs, kit_ss, kit_ts, kit_ls, kit_ds, kit_dd, lenS_ref, lenO_l, lenO_t,  rAppend, tM1, rIxS, tSl, tPart, tNoPart, tBM, tBM0, tDGetS, sDPutS, tTruS, truO_l, truO_t, truS_ref, truS_non, truS_bl, truS_int, tFld, sFld, sFldAug, rAdd, tMeth, tMake, tMakeK, List.take_succ_cons, List.take_zero, List.drop_succ_cons, List.drop_zero, List.take_nil, tIsN, tNotN, tAndV, tOrV, tNotV, putF, List.lookup, List.any_cons, List.any_nil, Sum.inr.injEq, HO.ins.injEq, HO.dK.injEq, eq_self, beq_self_eq_true, beq_iff_eq, decide_true, decide_false, Bool.or_true, Bool.true_or, Bool.or_false, Bool.false_or, tYes, rEq, rNe, _root_.L2.start, wipe, List.map_cons, List.map_nil, List.length_cons, List.length_nil, List.append_nil, Nat.reduceAdd, Nat.reduceSub, List.replicate_succ, List.replicate_zero, List.cons_append, List.nil_append, List.getElem?_cons_zero, List.getElem?_cons_succ, List.set_cons_zero, List.set_cons_succ, Option.some.injEq, V.int.injEq, V.ref.injEq, V.bl.injEq, V.str.injEq, List.cons.injEq, HO.lst.injEq, HO.tup.injEq, and_assoc, and_true, true_and, exists_eq_left, exists_eq_left', exists_and_left, exists_eq, reduceCtorEq, false_and, and_false, or_false, false_or, exists_false, decide_eq_true_eq, CPow, CDivW, Int.reducePow, Int.reduceLT, Int.reduceLE, Int.reduceNeg, Int.reduceToNat, Int.reduceAbs, Nat.reducePow, Nat.reduceLT, Nat.reduceLeDiff, sizeLine_eq, Int.reduceMul, Int.reduceAdd, Int.reduceSub, Bool.not_eq_true', decide_eq_false_iff_not, scal, Bool.not_true, Bool.not_false, Bool.true_eq_false, Bool.false_eq_true, ite_false, ite_true, if_true, if_false, ite_self, forall_const, atI0, atI1, atI2, atI3, ixN20, ixN21, upd_same, upd_upd, Int.zero_add, CMul, Int.reduceSub, Nat.le_refl, Nat.zero_le, or_true, true_or, exists_const, Int.sub_zero, hp, modF_waiting])
    refine ⟨⟨_, SqL.of hl⟩, fun D hD' => Lcl.list ws (fun j H' => ∃ acc, H' D = some (.lst acc) ∧ ImAll H' (((S.waiting.take j).filter fun w => decide (w.tr ≠ t ∨ a < w.2.2)).map wD) acc ∧ Same H H') ⟨[], upd_same, im_nil, same_new hD'⟩ ?_ ?_ ?_⟩
    · rintro j H2 hj ⟨acc, h1, h2, s2⟩
      exact SqL.of (s2 _ _ hl)
    · rintro j x H2 hj ⟨acc, h1, h2, s2⟩
      obtain ⟨w, hw, iw2⟩ := ims_who (Same.ims s2 iw) hj
      obtain ⟨q, tq, rfl, hq, itq⟩ := wD_at iw2
      have hal := h2.len
      rw [List.length_map] at hal
      have hfl := List.length_filter_le (fun w : Who => decide (w.tr ≠ t ∨ a < w.2.2)) (S.waiting.take j)
      rw [List.length_take] at hfl
      (try simp only [ne_0_1, ne_0_1b, ne_0_5, ne_0_5b, ne_0_6, ne_0_6b, ne_0_7, ne_0_7b, ne_1_0, ne_1_0b, ne_1_2, ne_1_2b, ne_1_3, ne_1_3b, ne_1_4, ne_1_4b, ne_1_5, ne_1_5b, ne_1_6, ne_1_6b, ne_1_7, ne_1_7b, ne_1_8, ne_1_8b, ne_2_1, ne_2_1b, ne_2_5, ne_2_5b, ne_2_6, ne_2_6b, ne_2_7, ne_2_7b, ne_3_1, ne_3_1b, ne_3_5, ne_3_5b, ne_3_6, ne_3_6b, ne_3_7, ne_3_7b, ne_4_1, ne_4_1b, ne_4_5, ne_4_5b, ne_4_6, ne_4_6b, ne_4_7, ne_4_7b, ne_5_0, ne_5_0b, ne_5_1, ne_5_1b, ne_5_2, ne_5_2b, ne_5_3, ne_5_3b, ne_5_4, ne_5_4b, ne_5_6, ne_5_6b, ne_5_7, ne_5_7b, ne_5_8, ne_5_8b, ne_6_0, ne_6_0b, ne_6_1, ne_6_1b, ne_6_2, ne_6_2b, ne_6_3, ne_6_3b, ne_6_4, ne_6_4b, ne_6_5, ne_6_5b, ne_6_7, ne_6_7b, ne_6_8, ne_6_8b, ne_7_0, ne_7_0b, ne_7_1, ne_7_1b, ne_7_2, ne_7_2b, ne_7_3, ne_7_3b, ne_7_4, ne_7_4b, ne_7_5, ne_7_5b, ne_7_6, ne_7_6b, ne_7_8, ne_7_8b, ne_8_1, ne_8_1b, ne_8_5, ne_8_5b, ne_8_6, ne_8_6b, ne_8_7, ne_8_7b, cxOf, Cx.nox, Cx.wish, tSeq, tAsg, tC, gName, tIfS, tTest, tOp, tUn, rU, rI0, rI, tVar, tNext, tBreak, tRet, tRetN, tDrop, tLst, tTup, tCons, tNil, tCB, tB, tOr, tAnd, tNot, tIf, tCall, tFor_eq, tLc_eq, iRng1, iRng2, iList, iTup, gTup, gTupH, gUnlH, gCons, gNil, gSub, rSetL, rIxL, rIxT, rIxLH, rIxTH, rSlTS, rCatS, rTupS, rIsiH, rLenS, V.ty.injEq, tyS_non, tyS_bl, tyS_int, tyS_str, tyS_ref, tyO_l, tyO_t, tyO_d, tyO_dt, kit_ll, kit_tt, kit_bb, kit_ii, kit_ib, kit_bi, kit_nt, kit_it, kit_st, kit_bt, kit_lt, kit_dt, kit_ni, kit_si, kit_ti, kit_li, kit_di, kit_nb, kit_ns, kit_is, kit_bs, kit_ss, kit_ts, kit_ls, kit_ds, kit_dd, lenS_ref, lenO_l, lenO_t,  rAppend, tM1, rIxS, tSl, tPart, tNoPart, tBM, tBM0, tDGetS, sDPutS, tTruS, truO_l, truO_t, truS_ref, truS_non, truS_bl, truS_int, tFld, sFld, sFldAug, rAdd, tMeth, tMake, tMakeK, List.take_succ_cons, List.take_zero, List.drop_succ_cons, List.drop_zero, List.take_nil, tIsN, tNotN, tAndV, tOrV, tNotV, putF, List.lookup, List.any_cons, List.any_nil, Sum.inr.injEq, HO.ins.injEq, HO.dK.injEq, eq_self, beq_self_eq_true, beq_iff_eq, decide_true, decide_false, Bool.or_true, Bool.true_or, Bool.or_false, Bool.false_or, tYes, rEq, rNe, _root_.L2.start, wipe, List.map_cons, List.map_nil, List.length_cons, List.length_nil, List.append_nil, Nat.reduceAdd, Nat.reduceSub, List.replicate_succ, List.replicate_zero, List.cons_append, List.nil_append, List.getElem?_cons_zero, List.getElem?_cons_succ, List.set_cons_zero, List.set_cons_succ, Option.some.injEq, V.int.injEq, V.ref.injEq, V.bl.injEq, V.str.injEq, List.cons.injEq, HO.lst.injEq, HO.tup.injEq, and_assoc, and_true, true_and, exists_eq_left, exists_eq_left', exists_and_left, exists_eq, reduceCtorEq, false_and, and_false, or_false, false_or, exists_false, decide_eq_true_eq, CPow, CDivW, Int.reducePow, Int.reduceLT, Int.reduceLE, Int.reduceNeg, Int.reduceToNat, Int.reduceAbs, Nat.reducePow, Nat.reduceLT, Nat.reduceLeDiff, sizeLine_eq, Int.reduceMul, Int.reduceAdd, Int.reduceSub, Bool.not_eq_true', decide_eq_false_iff_not, scal, Bool.not_true, Bool.not_false, Bool.true_eq_false, Bool.false_eq_true, ite_false, ite_true, if_true, if_false, ite_self, forall_const, atI0, atI1, atI2, atI3, ixN20, ixN21, upd_same, upd_upd, Int.zero_add, CMul, Int.reduceSub, Nat.le_refl, Nat.zero_le, or_true, true_or, exists_const, Int.sub_zero, hq, rEqD])
      refine ⟨_, Im.dp _ _ itq, _, Im.dp _ _ (Same.im s2 it), tD_shaped _, tD_shaped _, ?_⟩
      rw [tD_eqv, filter_take hw]
      by_cases hP : w.tr ≠ t ∨ a < w.2.2
      · simp only [decide_eq_true hP, if_true, decide_eq_true_eq]
        have A : ∃ acc, H2 D = some (HO.lst acc) ∧ acc.length < 16777216 ∧ ImAll (upd H2 D (HO.lst (acc ++ [V.ref q]))) (((S.waiting.take j).filter (fun w => decide (w.tr ≠ t ∨ a < w.2.2)) ++ [w]).map wD) (acc ++ [V.ref q]) ∧ Same H (upd H2 D (HO.lst (acc ++ [V.ref q]))) := by
          refine ⟨acc, h1, by omega, ?_, fun b o e => get_ne (ne_of_none e hD') (s2 b o e)⟩
          rw [List.map_append]
          exact ims_app h1 h2 iw2
        by_cases e1 : w.tr = t
        · have e2 : a < w.2.2 := hP.resolve_left fun z => z e1
          rw [if_pos e1, if_pos (Int.not_le.mpr e2)]; exact A
        · rw [if_neg e1]; exact A
      · simp only [decide_eq_false hP, Bool.false_eq_true, if_false, decide_eq_true_eq]
        have e1 : w.tr = t := Classical.byContradiction fun z => hP (.inl z)
        have e2 : ¬ a < w.2.2 := fun z => hP (.inr z)
        rw [if_pos e1, if_neg (fun z => z (Int.not_lt.mp e2))]
        exact ⟨acc, h1, h2, s2⟩
    · rintro H2 ⟨acc, h1, h2, s2⟩
      have hwl2 : ws.length = S.waiting.length := hwl
      rw [hwl2, List.take_length] at h2
      have hp2 := s2 _ _ hp
      have nDp : D ≠ p := (ne_of_none hp hD').symm
      have bt : Bt p l H H2 := Bt.of s2
      cases hS : S.holder with
      | none =>
        rw [hS] at ih
        have := hD_none ih
        subst this
        have e : freeS S t a = (⟨S.value, S.turn, none, S.left t a⟩, []) := by unfold freeS; rw [hS]
        rw [e] at kk
        (try simp only [ne_0_1, ne_0_1b, ne_0_5, ne_0_5b, ne_0_6, ne_0_6b, ne_0_7, ne_0_7b, ne_1_0, ne_1_0b, ne_1_2, ne_1_2b, ne_1_3, ne_1_3b, ne_1_4, ne_1_4b, ne_1_5, ne_1_5b, ne_1_6, ne_1_6b, ne_1_7, ne_1_7b, ne_1_8, ne_1_8b, ne_2_1, ne_2_1b, ne_2_5, ne_2_5b, ne_2_6, ne_2_6b, ne_2_7, ne_2_7b, ne_3_1, ne_3_1b, ne_3_5, ne_3_5b, ne_3_6, ne_3_6b, ne_3_7, ne_3_7b, ne_4_1, ne_4_1b, ne_4_5, ne_4_5b, ne_4_6, ne_4_6b, ne_4_7, ne_4_7b, ne_5_0, ne_5_0b, ne_5_1, ne_5_1b, ne_5_2, ne_5_2b, ne_5_3, ne_5_3b, ne_5_4, ne_5_4b, ne_5_6, ne_5_6b, ne_5_7, ne_5_7b, ne_5_8, ne_5_8b, ne_6_0, ne_6_0b, ne_6_1, ne_6_1b, ne_6_2, ne_6_2b, ne_6_3, ne_6_3b, ne_6_4, ne_6_4b, ne_6_5, ne_6_5b, ne_6_7, ne_6_7b, ne_6_8, ne_6_8b, ne_7_0, ne_7_0b, ne_7_1, ne_7_1b, ne_7_2, ne_7_2b, ne_7_3, ne_7_3b, ne_7_4, ne_7_4b, ne_7_5, ne_7_5b, ne_7_6, ne_7_6b, ne_7_8, ne_7_8b, ne_8_1, ne_8_1b, ne_8_5, ne_8_5b, ne_8_6, ne_8_6b, ne_8_7, ne_8_7b, cxOf, Cx.nox, Cx.wish, tSeq, tAsg, tC, gName, tIfS, tTest, tOp, tUn, rU, rI0, rI, tVar, tNext, tBreak, tRet, tRetN, tDrop, tLst, tTup, tCons, tNil, tCB, tB, tOr, tAnd, tNot, tIf, tCall, tFor_eq, tLc_eq, iRng1, iRng2, iList, iTup, gTup, gTupH, gUnlH, gCons, gNil, gSub, rSetL, rIxL, rIxT, rIxLH, rIxTH, rSlTS, rCatS, rTupS, rIsiH, rLenS, V.ty.injEq, tyS_non, tyS_bl, tyS_int, tyS_str, tyS_ref, tyO_l, tyO_t, tyO_d, tyO_dt, kit_ll, kit_tt, kit_bb, kit_ii, kit_ib, kit_bi, kit_nt, kit_it, kit_st, kit_bt, kit_lt, kit_dt, kit_ni, kit_si, kit_ti, kit_li, kit_di, kit_nb, kit_ns, kit_is, kit_bs, kit_ss, kit_ts, kit_ls, kit_ds, kit_dd, lenS_ref, lenO_l, lenO_t,  rAppend, tM1, rIxS, tSl, tPart, tNoPart, tBM, tBM0, tDGetS, sDPutS, tTruS, truO_l, truO_t, truS_ref, truS_non, truS_bl, truS_int, tFld, sFld, sFldAug, rAdd, tMeth, tMake, tMakeK, List.take_succ_cons, List.take_zero, List.drop_succ_cons, List.drop_zero, List.take_nil, tIsN, tNotN, tAndV, tOrV, tNotV, putF, List.lookup, List.any_cons, List.any_nil, Sum.inr.injEq, HO.ins.injEq, HO.dK.injEq, eq_self, beq_self_eq_true, beq_iff_eq, decide_true, decide_false, Bool.or_true, Bool.true_or, Bool.or_false, Bool.false_or, tYes, rEq, rNe, _root_.L2.start, wipe, List.map_cons, List.map_nil, List.length_cons, List.length_nil, List.append_nil, Nat.reduceAdd, Nat.reduceSub, List.replicate_succ, List.replicate_zero, List.cons_append, List.nil_append, List.getElem?_cons_zero, List.getElem?_cons_succ, List.set_cons_zero, List.set_cons_succ, Option.some.injEq, V.int.injEq, V.ref.injEq, V.bl.injEq, V.str.injEq, List.cons.injEq, HO.lst.injEq, HO.tup.injEq, and_assoc, and_true, true_and, exists_eq_left, exists_eq_left', exists_and_left, exists_eq, reduceCtorEq, false_and, and_false, or_false, false_or, exists_false, decide_eq_true_eq, CPow, CDivW, Int.reducePow, Int.reduceLT, Int.reduceLE, Int.reduceNeg, Int.reduceToNat, Int.reduceAbs, Nat.reducePow, Nat.reduceLT, Nat.reduceLeDiff, sizeLine_eq, Int.reduceMul, Int.reduceAdd, Int.reduceSub, Bool.not_eq_true', decide_eq_false_iff_not, scal, Bool.not_true, Bool.not_false, Bool.true_eq_false, Bool.false_eq_true, ite_false, ite_true, if_true, if_false, ite_self, forall_const, atI0, atI1, atI2, atI3, ixN20, ixN21, upd_same, upd_upd, Int.zero_add, CMul, Int.reduceSub, Nat.le_refl, Nat.zero_le, or_true, true_or, exists_const, Int.sub_zero, hp2, modF_waiting, modF_holder, modF_turn, modF_len, modF_put_waiting, modF_put_holder, modF_put_turn])
        intro q hq
        obtain ⟨nqp, hq'⟩ := upd_none hq
        exact kk D q [] _ ⟨.non, acc, get_new hq upd_same, im_non, get_new hq (get_ne nDp h1), imsNew hq (imsDk hp2 h2)⟩ hD' (bt.non _ hq') (ne_of_none h1 hq').symm upd_same im_nil (Bt.new (Bt.putP bt) hq)
      | some h =>
        rw [hS] at ih
        obtain ⟨qh, th, rfl, hqh, ith⟩ := hD_ref ih
        have hq2 := s2 _ _ hqh
        have nqp : qh ≠ p := fun z => by subst z; rw [hp] at hqh; cases hqh
        (try simp only [ne_0_1, ne_0_1b, ne_0_5, ne_0_5b, ne_0_6, ne_0_6b, ne_0_7, ne_0_7b, ne_1_0, ne_1_0b, ne_1_2, ne_1_2b, ne_1_3, ne_1_3b, ne_1_4, ne_1_4b, ne_1_5, ne_1_5b, ne_1_6, ne_1_6b, ne_1_7, ne_1_7b, ne_1_8, ne_1_8b, ne_2_1, ne_2_1b, ne_2_5, ne_2_5b, ne_2_6, ne_2_6b, ne_2_7, ne_2_7b, ne_3_1, ne_3_1b, ne_3_5, ne_3_5b, ne_3_6, ne_3_6b, ne_3_7, ne_3_7b, ne_4_1, ne_4_1b, ne_4_5, ne_4_5b, ne_4_6, ne_4_6b, ne_4_7, ne_4_7b, ne_5_0, ne_5_0b, ne_5_1, ne_5_1b, ne_5_2, ne_5_2b, ne_5_3, ne_5_3b, ne_5_4, ne_5_4b, ne_5_6, ne_5_6b, ne_5_7, ne_5_7b, ne_5_8, ne_5_8b, ne_6_0, ne_6_0b, ne_6_1, ne_6_1b, ne_6_2, ne_6_2b, ne_6_3, ne_6_3b, ne_6_4, ne_6_4b, ne_6_5, ne_6_5b, ne_6_7, ne_6_7b, ne_6_8, ne_6_8b, ne_7_0, ne_7_0b, ne_7_1, ne_7_1b, ne_7_2, ne_7_2b, ne_7_3, ne_7_3b, ne_7_4, ne_7_4b, ne_7_5, ne_7_5b, ne_7_6, ne_7_6b, ne_7_8, ne_7_8b, ne_8_1, ne_8_1b, ne_8_5, ne_8_5b, ne_8_6, ne_8_6b, ne_8_7, ne_8_7b, cxOf, Cx.nox, Cx.wish, tSeq, tAsg, tC, gName, tIfS, tTest, tOp, tUn, rU, rI0, rI, tVar, tNext, tBreak, tRet, tRetN, tDrop, tLst, tTup, tCons, tNil, tCB, tB, tOr, tAnd, tNot, tIf, tCall, tFor_eq, tLc_eq, iRng1, iRng2, iList, iTup, gTup, gTupH, gUnlH, gCons, gNil, gSub, rSetL, rIxL, rIxT, rIxLH, rIxTH, rSlTS, rCatS, rTupS, rIsiH, rLenS, V.ty.injEq, tyS_non, tyS_bl, tyS_int, tyS_str, tyS_ref, tyO_l, tyO_t, tyO_d, tyO_dt, kit_ll, kit_tt, kit_bb, kit_ii, kit_ib, kit_bi, kit_nt, kit_it, kit_st, kit_bt, kit_lt, kit_dt, kit_ni, kit_si, kit_ti, kit_li, kit_di, kit_nb, kit_ns, kit_is, kit_bs, kit_ss, kit_ts, kit_ls, kit_ds, kit_dd, lenS_ref, lenO_l, lenO_t,  rAppend, tM1, rIxS, tSl, tPart, tNoPart, tBM, tBM0, tDGetS, sDPutS, tTruS, truO_l, truO_t, truS_ref, truS_non, truS_bl, truS_int, tFld, sFld, sFldAug, rAdd, tMeth, tMake, tMakeK, List.take_succ_cons, List.take_zero, List.drop_succ_cons, List.drop_zero, List.take_nil, tIsN, tNotN, tAndV, tOrV, tNotV, putF, List.lookup, List.any_cons, List.any_nil, Sum.inr.injEq, HO.ins.injEq, HO.dK.injEq, eq_self, beq_self_eq_true, beq_iff_eq, decide_true, decide_false, Bool.or_true, Bool.true_or, Bool.or_false, Bool.false_or, tYes, rEq, rNe, _root_.L2.start, wipe, List.map_cons, List.map_nil, List.length_cons, List.length_nil, List.append_nil, Nat.reduceAdd, Nat.reduceSub, List.replicate_succ, List.replicate_zero, List.cons_append, List.nil_append, List.getElem?_cons_zero, List.getElem?_cons_succ, List.set_cons_zero, List.set_cons_succ, Option.some.injEq, V.int.injEq, V.ref.injEq, V.bl.injEq, V.str.injEq, List.cons.injEq, HO.lst.injEq, HO.tup.injEq, and_assoc, and_true, true_and, exists_eq_left, exists_eq_left', exists_and_left, exists_eq, reduceCtorEq, false_and, and_false, or_false, false_or, exists_false, decide_eq_true_eq, CPow, CDivW, Int.reducePow, Int.reduceLT, Int.reduceLE, Int.reduceNeg, Int.reduceToNat, Int.reduceAbs, Nat.reducePow, Nat.reduceLT, Nat.reduceLeDiff, sizeLine_eq, Int.reduceMul, Int.reduceAdd, Int.reduceSub, Bool.not_eq_true', decide_eq_false_iff_not, scal, Bool.not_true, Bool.not_false, Bool.true_eq_false, Bool.false_eq_true, ite_false, ite_true, if_true, if_false, ite_self, forall_const, atI0, atI1, atI2, atI3, ixN20, ixN21, upd_same, upd_upd, Int.zero_add, CMul, Int.reduceSub, Nat.le_refl, Nat.zero_le, or_true, true_or, exists_const, Int.sub_zero, hp2, modF_waiting, modF_holder, modF_turn, modF_len, modF_put_waiting, modF_put_holder, modF_put_turn, upd_ne nqp, hq2, rNeD])
        refine ⟨_, Im.dp _ _ (imDk hp2 (Same.im s2 ith)), _, Im.dp _ _ (imDk hp2 (Same.im s2 it)), tD_shaped _, tD_shaped _, ?_⟩
        rw [tD_eqv]
        (try simp only [ne_0_1, ne_0_1b, ne_0_5, ne_0_5b, ne_0_6, ne_0_6b, ne_0_7, ne_0_7b, ne_1_0, ne_1_0b, ne_1_2, ne_1_2b, ne_1_3, ne_1_3b, ne_1_4, ne_1_4b, ne_1_5, ne_1_5b, ne_1_6, ne_1_6b, ne_1_7, ne_1_7b, ne_1_8, ne_1_8b, ne_2_1, ne_2_1b, ne_2_5, ne_2_5b, ne_2_6, ne_2_6b, ne_2_7, ne_2_7b, ne_3_1, ne_3_1b, ne_3_5, ne_3_5b, ne_3_6, ne_3_6b, ne_3_7, ne_3_7b, ne_4_1, ne_4_1b, ne_4_5, ne_4_5b, ne_4_6, ne_4_6b, ne_4_7, ne_4_7b, ne_5_0, ne_5_0b, ne_5_1, ne_5_1b, ne_5_2, ne_5_2b, ne_5_3, ne_5_3b, ne_5_4, ne_5_4b, ne_5_6, ne_5_6b, ne_5_7, ne_5_7b, ne_5_8, ne_5_8b, ne_6_0, ne_6_0b, ne_6_1, ne_6_1b, ne_6_2, ne_6_2b, ne_6_3, ne_6_3b, ne_6_4, ne_6_4b, ne_6_5, ne_6_5b, ne_6_7, ne_6_7b, ne_6_8, ne_6_8b, ne_7_0, ne_7_0b, ne_7_1, ne_7_1b, ne_7_2, ne_7_2b, ne_7_3, ne_7_3b, ne_7_4, ne_7_4b, ne_7_5, ne_7_5b, ne_7_6, ne_7_6b, ne_7_8, ne_7_8b, ne_8_1, ne_8_1b, ne_8_5, ne_8_5b, ne_8_6, ne_8_6b, ne_8_7, ne_8_7b, cxOf, Cx.nox, Cx.wish, tSeq, tAsg, tC, gName, tIfS, tTest, tOp, tUn, rU, rI0, rI, tVar, tNext, tBreak, tRet, tRetN, tDrop, tLst, tTup, tCons, tNil, tCB, tB, tOr, tAnd, tNot, tIf, tCall, tFor_eq, tLc_eq, iRng1, iRng2, iList, iTup, gTup, gTupH, gUnlH, gCons, gNil, gSub, rSetL, rIxL, rIxT, rIxLH, rIxTH, rSlTS, rCatS, rTupS, rIsiH, rLenS, V.ty.injEq, tyS_non, tyS_bl, tyS_int, tyS_str, tyS_ref, tyO_l, tyO_t, tyO_d, tyO_dt, kit_ll, kit_tt, kit_bb, kit_ii, kit_ib, kit_bi, kit_nt, kit_it, kit_st, kit_bt, kit_lt, kit_dt, kit_ni, kit_si, kit_ti, kit_li, kit_di, kit_nb, kit_ns, kit_is, kit_bs, kit_ss, kit_ts, kit_ls, kit_ds, kit_dd, lenS_ref, lenO_l, lenO_t,  rAppend, tM1, rIxS, tSl, tPart, tNoPart, tBM, tBM0, tDGetS, sDPutS, tTruS, truO_l, truO_t, truS_ref, truS_non, truS_bl, truS_int, tFld, sFld, sFldAug, rAdd, tMeth, tMake, tMakeK, List.take_succ_cons, List.take_zero, List.drop_succ_cons, List.drop_zero, List.take_nil, tIsN, tNotN, tAndV, tOrV, tNotV, putF, List.lookup, List.any_cons, List.any_nil, Sum.inr.injEq, HO.ins.injEq, HO.dK.injEq, eq_self, beq_self_eq_true, beq_iff_eq, decide_true, decide_false, Bool.or_true, Bool.true_or, Bool.or_false, Bool.false_or, tYes, rEq, rNe, _root_.L2.start, wipe, List.map_cons, List.map_nil, List.length_cons, List.length_nil, List.append_nil, Nat.reduceAdd, Nat.reduceSub, List.replicate_succ, List.replicate_zero, List.cons_append, List.nil_append, List.getElem?_cons_zero, List.getElem?_cons_succ, List.set_cons_zero, List.set_cons_succ, Option.some.injEq, V.int.injEq, V.ref.injEq, V.bl.injEq, V.str.injEq, List.cons.injEq, HO.lst.injEq, HO.tup.injEq, and_assoc, and_true, true_and, exists_eq_left, exists_eq_left', exists_and_left, exists_eq, reduceCtorEq, false_and, and_false, or_false, false_or, exists_false, decide_eq_true_eq, CPow, CDivW, Int.reducePow, Int.reduceLT, Int.reduceLE, Int.reduceNeg, Int.reduceToNat, Int.reduceAbs, Nat.reducePow, Nat.reduceLT, Nat.reduceLeDiff, sizeLine_eq, Int.reduceMul, Int.reduceAdd, Int.reduceSub, Bool.not_eq_true', decide_eq_false_iff_not, scal, Bool.not_true, Bool.not_false, Bool.true_eq_false, Bool.false_eq_true, ite_false, ite_true, if_true, if_false, ite_self, forall_const, atI0, atI1, atI2, atI3, ixN20, ixN21, upd_same, upd_upd, Int.zero_add, CMul, Int.reduceSub, Nat.le_refl, Nat.zero_le, or_true, true_or, exists_const, Int.sub_zero, hp2, modF_waiting, modF_holder, modF_turn, modF_len, modF_put_waiting, modF_put_holder, modF_put_turn, upd_ne nqp, hq2])
        by_cases hP : h.tr ≠ t ∨ a < h.2.2
        · have e : freeS S t a = (⟨S.value, S.turn, some h, S.left t a⟩, []) := by unfold freeS; rw [hS]; simp only []; rw [if_pos hP]
          rw [e] at kk
          have A : ∀ (q : Addr), upd H2 p (HO.dK (modF S.value S.turn (V.ref qh) D)) q = none → Q (V.ref q) (upd (upd H2 p (HO.dK (modF S.value S.turn (V.ref qh) D))) q (HO.lst [])) := by
            intro q hq
            obtain ⟨nqp, hq'⟩ := upd_none hq
            exact kk D q [] _ ⟨.ref qh, acc, get_new hq upd_same, imNew hq (imDk hp2 (Same.im s2 ih)), get_new hq (get_ne nDp h1), imsNew hq (imsDk hp2 h2)⟩ hD' (bt.non _ hq') (ne_of_none h1 hq').symm upd_same im_nil (Bt.new (Bt.putP bt) hq)
          by_cases e1 : h.tr = t
          · rw [if_neg (fun z => z e1), if_pos (hP.resolve_left fun z => z e1)]; exact A
          · rw [if_pos e1]; exact A
        · have e1 : h.tr = t := Classical.byContradiction fun z => hP (.inl z)
          have e2 : ¬ a < h.2.2 := fun z => hP (.inr z)
          rw [if_neg (fun z => z e1), if_neg e2]
          have h2' : ImAll H2 ((S.left t a).map wD) acc := h2
          have hal := h2'.len
          rw [List.length_map] at hal
          have hll := left_len S t a
          intro e0 he0
          generalize hHa : upd (upd H2 p (HO.dK (modF S.value S.turn V.non D))) e0 (HO.lst []) = Ha
          have ap : Ha p = some (HO.dK (modF S.value S.turn .non D)) := by rw [← hHa]; exact get_new he0 upd_same
          have aD : Ha D = some (.lst acc) := by rw [← hHa]; exact get_new he0 (get_ne nDp h1)
          have a0 : Ha e0 = some (.lst []) := by rw [← hHa]; exact upd_same
          have aI : ImAll Ha ((S.left t a).map wD) acc := by rw [← hHa]; exact imsNew he0 (imsDk hp2 h2')
          have aB : Bt p l H Ha := by rw [← hHa]; exact Bt.new (Bt.putP bt) he0
          clear hHa he0
          refine ⟨_, _, .lst (SqL.of aD) (ImAll.dp _ _ aI), .lst (SqL.of a0) .nil, wDs_shaped _, by decide, ?_⟩
          cases hL : S.left t a with
          | nil =>
            have e : freeS S t a = (⟨S.value, S.turn, none, []⟩, []) := by unfold freeS; rw [hS]; simp only []; rw [if_neg hP, hL]
            rw [hL] at hal aI
            have ea : acc = [] := List.length_eq_zero_iff.mp hal
            subst ea
            rw [show PyData.eqv (.list (List.map wD [])) (.list []) = true from by simp [PyData.eqv, PyData.eqvAll]]
            rw [e] at kk
            (try simp only [ne_0_1, ne_0_1b, ne_0_5, ne_0_5b, ne_0_6, ne_0_6b, ne_0_7, ne_0_7b, ne_1_0, ne_1_0b, ne_1_2, ne_1_2b, ne_1_3, ne_1_3b, ne_1_4, ne_1_4b, ne_1_5, ne_1_5b, ne_1_6, ne_1_6b, ne_1_7, ne_1_7b, ne_1_8, ne_1_8b, ne_2_1, ne_2_1b, ne_2_5, ne_2_5b, ne_2_6, ne_2_6b, ne_2_7, ne_2_7b, ne_3_1, ne_3_1b, ne_3_5, ne_3_5b, ne_3_6, ne_3_6b, ne_3_7, ne_3_7b, ne_4_1, ne_4_1b, ne_4_5, ne_4_5b, ne_4_6, ne_4_6b, ne_4_7, ne_4_7b, ne_5_0, ne_5_0b, ne_5_1, ne_5_1b, ne_5_2, ne_5_2b, ne_5_3, ne_5_3b, ne_5_4, ne_5_4b, ne_5_6, ne_5_6b, ne_5_7, ne_5_7b, ne_5_8, ne_5_8b, ne_6_0, ne_6_0b, ne_6_1, ne_6_1b, ne_6_2, ne_6_2b, ne_6_3, ne_6_3b, ne_6_4, ne_6_4b, ne_6_5, ne_6_5b, ne_6_7, ne_6_7b, ne_6_8, ne_6_8b, ne_7_0, ne_7_0b, ne_7_1, ne_7_1b, ne_7_2, ne_7_2b, ne_7_3, ne_7_3b, ne_7_4, ne_7_4b, ne_7_5, ne_7_5b, ne_7_6, ne_7_6b, ne_7_8, ne_7_8b, ne_8_1, ne_8_1b, ne_8_5, ne_8_5b, ne_8_6, ne_8_6b, ne_8_7, ne_8_7b, cxOf, Cx.nox, Cx.wish, tSeq, tAsg, tC, gName, tIfS, tTest, tOp, tUn, rU, rI0, rI, tVar, tNext, tBreak, tRet, tRetN, tDrop, tLst, tTup, tCons, tNil, tCB, tB, tOr, tAnd, tNot, tIf, tCall, tFor_eq, tLc_eq, iRng1, iRng2, iList, iTup, gTup, gTupH, gUnlH, gCons, gNil, gSub, rSetL, rIxL, rIxT, rIxLH, rIxTH, rSlTS, rCatS, rTupS, rIsiH, rLenS, V.ty.injEq, tyS_non, tyS_bl, tyS_int, tyS_str, tyS_ref, tyO_l, tyO_t, tyO_d, tyO_dt, kit_ll, kit_tt, kit_bb, kit_ii, kit_ib, kit_bi, kit_nt, kit_it, kit_st, kit_bt, kit_lt, kit_dt, kit_ni, kit_si, kit_ti, kit_li, kit_di, kit_nb, kit_ns, kit_is, kit_bs, kit_ss, kit_ts, kit_ls, kit_ds, kit_dd, lenS_ref, lenO_l, lenO_t,  rAppend, tM1, rIxS, tSl, tPart, tNoPart, tBM, tBM0, tDGetS, sDPutS, tTruS, truO_l, truO_t, truS_ref, truS_non, truS_bl, truS_int, tFld, sFld, sFldAug, rAdd, tMeth, tMake, tMakeK, List.take_succ_cons, List.take_zero, List.drop_succ_cons, List.drop_zero, List.take_nil, tIsN, tNotN, tAndV, tOrV, tNotV, putF, List.lookup, List.any_cons, List.any_nil, Sum.inr.injEq, HO.ins.injEq, HO.dK.injEq, eq_self, beq_self_eq_true, beq_iff_eq, decide_true, decide_false, Bool.or_true, Bool.true_or, Bool.or_false, Bool.false_or, tYes, rEq, rNe, _root_.L2.start, wipe, List.map_cons, List.map_nil, List.length_cons, List.length_nil, List.append_nil, Nat.reduceAdd, Nat.reduceSub, List.replicate_succ, List.replicate_zero, List.cons_append, List.nil_append, List.getElem?_cons_zero, List.getElem?_cons_succ, List.set_cons_zero, List.set_cons_succ, Option.some.injEq, V.int.injEq, V.ref.injEq, V.bl.injEq, V.str.injEq, List.cons.injEq, HO.lst.injEq, HO.tup.injEq, and_assoc, and_true, true_and, exists_eq_left, exists_eq_left', exists_and_left, exists_eq, reduceCtorEq, false_and, and_false, or_false, false_or, exists_false, decide_eq_true_eq, CPow, CDivW, Int.reducePow, Int.reduceLT, Int.reduceLE, Int.reduceNeg, Int.reduceToNat, Int.reduceAbs, Nat.reducePow, Nat.reduceLT, Nat.reduceLeDiff, sizeLine_eq, Int.reduceMul, Int.reduceAdd, Int.reduceSub, Bool.not_eq_true', decide_eq_false_iff_not, scal, Bool.not_true, Bool.not_false, Bool.true_eq_false, Bool.false_eq_true, ite_false, ite_true, if_true, if_false, ite_self, forall_const, atI0, atI1, atI2, atI3, ixN20, ixN21, upd_same, upd_upd, Int.zero_add, CMul, Int.reduceSub, Nat.le_refl, Nat.zero_le, or_true, true_or, exists_const, Int.sub_zero])
            intro q hq
            exact kk D q [] _ ⟨.non, [], get_new hq ap, im_non, get_new hq aD, im_nil⟩ hD' (aB.non _ hq) (ne_of_none aD hq).symm upd_same im_nil (aB.new hq)
          | cons w0 ws0 =>
            have e : freeS S t a = (⟨S.value, S.turn + 1, some (minW w0 ws0), (w0 :: ws0).filter fun x => decide (x ≠ minW w0 ws0)⟩, [minW w0 ws0]) := by unfold freeS; rw [hS]; simp only []; rw [if_neg hP, hL]
            rw [hL] at aI hll
            have hlnd : (w0 :: ws0).Nodup := by rw [← hL]; exact hnd.filter _
            rw [show PyData.eqv (.list (List.map wD (w0 :: ws0))) (.list []) = false from by simp [PyData.eqv, PyData.eqvAll]]
            rw [e] at kk
            (try simp only [ne_0_1, ne_0_1b, ne_0_5, ne_0_5b, ne_0_6, ne_0_6b, ne_0_7, ne_0_7b, ne_1_0, ne_1_0b, ne_1_2, ne_1_2b, ne_1_3, ne_1_3b, ne_1_4, ne_1_4b, ne_1_5, ne_1_5b, ne_1_6, ne_1_6b, ne_1_7, ne_1_7b, ne_1_8, ne_1_8b, ne_2_1, ne_2_1b, ne_2_5, ne_2_5b, ne_2_6, ne_2_6b, ne_2_7, ne_2_7b, ne_3_1, ne_3_1b, ne_3_5, ne_3_5b, ne_3_6, ne_3_6b, ne_3_7, ne_3_7b, ne_4_1, ne_4_1b, ne_4_5, ne_4_5b, ne_4_6, ne_4_6b, ne_4_7, ne_4_7b, ne_5_0, ne_5_0b, ne_5_1, ne_5_1b, ne_5_2, ne_5_2b, ne_5_3, ne_5_3b, ne_5_4, ne_5_4b, ne_5_6, ne_5_6b, ne_5_7, ne_5_7b, ne_5_8, ne_5_8b, ne_6_0, ne_6_0b, ne_6_1, ne_6_1b, ne_6_2, ne_6_2b, ne_6_3, ne_6_3b, ne_6_4, ne_6_4b, ne_6_5, ne_6_5b, ne_6_7, ne_6_7b, ne_6_8, ne_6_8b, ne_7_0, ne_7_0b, ne_7_1, ne_7_1b, ne_7_2, ne_7_2b, ne_7_3, ne_7_3b, ne_7_4, ne_7_4b, ne_7_5, ne_7_5b, ne_7_6, ne_7_6b, ne_7_8, ne_7_8b, ne_8_1, ne_8_1b, ne_8_5, ne_8_5b, ne_8_6, ne_8_6b, ne_8_7, ne_8_7b, cxOf, Cx.nox, Cx.wish, tSeq, tAsg, tC, gName, tIfS, tTest, tOp, tUn, rU, rI0, rI, tVar, tNext, tBreak, tRet, tRetN, tDrop, tLst, tTup, tCons, tNil, tCB, tB, tOr, tAnd, tNot, tIf, tCall, tFor_eq, tLc_eq, iRng1, iRng2, iList, iTup, gTup, gTupH, gUnlH, gCons, gNil, gSub, rSetL, rIxL, rIxT, rIxLH, rIxTH, rSlTS, rCatS, rTupS, rIsiH, rLenS, V.ty.injEq, tyS_non, tyS_bl, tyS_int, tyS_str, tyS_ref, tyO_l, tyO_t, tyO_d, tyO_dt, kit_ll, kit_tt, kit_bb, kit_ii, kit_ib, kit_bi, kit_nt, kit_it, kit_st, kit_bt, kit_lt, kit_dt, kit_ni, kit_si, kit_ti, kit_li, kit_di, kit_nb, kit_ns, kit_is, kit_bs, kit_ss, kit_ts, kit_ls, kit_ds, kit_dd, lenS_ref, lenO_l, lenO_t,  rAppend, tM1, rIxS, tSl, tPart, tNoPart, tBM, tBM0, tDGetS, sDPutS, tTruS, truO_l, truO_t, truS_ref, truS_non, truS_bl, truS_int, tFld, sFld, sFldAug, rAdd, tMeth, tMake, tMakeK, List.take_succ_cons, List.take_zero, List.drop_succ_cons, List.drop_zero, List.take_nil, tIsN, tNotN, tAndV, tOrV, tNotV, putF, List.lookup, List.any_cons, List.any_nil, Sum.inr.injEq, HO.ins.injEq, HO.dK.injEq, eq_self, beq_self_eq_true, beq_iff_eq, decide_true, decide_false, Bool.or_true, Bool.true_or, Bool.or_false, Bool.false_or, tYes, rEq, rNe, _root_.L2.start, wipe, List.map_cons, List.map_nil, List.length_cons, List.length_nil, List.append_nil, Nat.reduceAdd, Nat.reduceSub, List.replicate_succ, List.replicate_zero, List.cons_append, List.nil_append, List.getElem?_cons_zero, List.getElem?_cons_succ, List.set_cons_zero, List.set_cons_succ, Option.some.injEq, V.int.injEq, V.ref.injEq, V.bl.injEq, V.str.injEq, List.cons.injEq, HO.lst.injEq, HO.tup.injEq, and_assoc, and_true, true_and, exists_eq_left, exists_eq_left', exists_and_left, exists_eq, reduceCtorEq, false_and, and_false, or_false, false_or, exists_false, decide_eq_true_eq, CPow, CDivW, Int.reducePow, Int.reduceLT, Int.reduceLE, Int.reduceNeg, Int.reduceToNat, Int.reduceAbs, Nat.reducePow, Nat.reduceLT, Nat.reduceLeDiff, sizeLine_eq, Int.reduceMul, Int.reduceAdd, Int.reduceSub, Bool.not_eq_true', decide_eq_false_iff_not, scal, Bool.not_true, Bool.not_false, Bool.true_eq_false, Bool.false_eq_true, ite_false, ite_true, if_true, if_false, ite_self, forall_const, atI0, atI1, atI2, atI3, ixN20, ixN21, upd_same, upd_upd, Int.zero_add, CMul, Int.reduceSub, Nat.le_refl, Nat.zero_le, or_true, true_or, exists_const, Int.sub_zero, ap, modF_waiting, rSortD, aD])
            refine ⟨_, aI, wDs_alike _, wDs_sortable _, wDs_depth _, fun q zs H3 hq s3 _ hz iz => ?_⟩
            rw [sortW_map] at iz
            obtain ⟨r, hr1⟩ := sortW_head w0 ws0
            rw [hr1] at iz
            simp only [List.map_cons, ImAll] at iz
            obtain ⟨v, r2, rfl, iv, _⟩ := iz
            have bp := s3 _ _ ap
            have bD := s3 _ _ aD
            have bI := Same.ims s3 aI
            obtain ⟨j, hj1, hj2⟩ := erase_who hlnd (minW_mem w0 ws0)
            (try simp only [ne_0_1, ne_0_1b, ne_0_5, ne_0_5b, ne_0_6, ne_0_6b, ne_0_7, ne_0_7b, ne_1_0, ne_1_0b, ne_1_2, ne_1_2b, ne_1_3, ne_1_3b, ne_1_4, ne_1_4b, ne_1_5, ne_1_5b, ne_1_6, ne_1_6b, ne_1_7, ne_1_7b, ne_1_8, ne_1_8b, ne_2_1, ne_2_1b, ne_2_5, ne_2_5b, ne_2_6, ne_2_6b, ne_2_7, ne_2_7b, ne_3_1, ne_3_1b, ne_3_5, ne_3_5b, ne_3_6, ne_3_6b, ne_3_7, ne_3_7b, ne_4_1, ne_4_1b, ne_4_5, ne_4_5b, ne_4_6, ne_4_6b, ne_4_7, ne_4_7b, ne_5_0, ne_5_0b, ne_5_1, ne_5_1b, ne_5_2, ne_5_2b, ne_5_3, ne_5_3b, ne_5_4, ne_5_4b, ne_5_6, ne_5_6b, ne_5_7, ne_5_7b, ne_5_8, ne_5_8b, ne_6_0, ne_6_0b, ne_6_1, ne_6_1b, ne_6_2, ne_6_2b, ne_6_3, ne_6_3b, ne_6_4, ne_6_4b, ne_6_5, ne_6_5b, ne_6_7, ne_6_7b, ne_6_8, ne_6_8b, ne_7_0, ne_7_0b, ne_7_1, ne_7_1b, ne_7_2, ne_7_2b, ne_7_3, ne_7_3b, ne_7_4, ne_7_4b, ne_7_5, ne_7_5b, ne_7_6, ne_7_6b, ne_7_8, ne_7_8b, ne_8_1, ne_8_1b, ne_8_5, ne_8_5b, ne_8_6, ne_8_6b, ne_8_7, ne_8_7b, cxOf, Cx.nox, Cx.wish, tSeq, tAsg, tC, gName, tIfS, tTest, tOp, tUn, rU, rI0, rI, tVar, tNext, tBreak, tRet, tRetN, tDrop, tLst, tTup, tCons, tNil, tCB, tB, tOr, tAnd, tNot, tIf, tCall, tFor_eq, tLc_eq, iRng1, iRng2, iList, iTup, gTup, gTupH, gUnlH, gCons, gNil, gSub, rSetL, rIxL, rIxT, rIxLH, rIxTH, rSlTS, rCatS, rTupS, rIsiH, rLenS, V.ty.injEq, tyS_non, tyS_bl, tyS_int, tyS_str, tyS_ref, tyO_l, tyO_t, tyO_d, tyO_dt, kit_ll, kit_tt, kit_bb, kit_ii, kit_ib, kit_bi, kit_nt, kit_it, kit_st, kit_bt, kit_lt, kit_dt, kit_ni, kit_si, kit_ti, kit_li, kit_di, kit_nb, kit_ns, kit_is, kit_bs, kit_ss, kit_ts, kit_ls, kit_ds, kit_dd, lenS_ref, lenO_l, lenO_t,  rAppend, tM1, rIxS, tSl, tPart, tNoPart, tBM, tBM0, tDGetS, sDPutS, tTruS, truO_l, truO_t, truS_ref, truS_non, truS_bl, truS_int, tFld, sFld, sFldAug, rAdd, tMeth, tMake, tMakeK, List.take_succ_cons, List.take_zero, List.drop_succ_cons, List.drop_zero, List.take_nil, tIsN, tNotN, tAndV, tOrV, tNotV, putF, List.lookup, List.any_cons, List.any_nil, Sum.inr.injEq, HO.ins.injEq, HO.dK.injEq, eq_self, beq_self_eq_true, beq_iff_eq, decide_true, decide_false, Bool.or_true, Bool.true_or, Bool.or_false, Bool.false_or, tYes, rEq, rNe, _root_.L2.start, wipe, List.map_cons, List.map_nil, List.length_cons, List.length_nil, List.append_nil, Nat.reduceAdd, Nat.reduceSub, List.replicate_succ, List.replicate_zero, List.cons_append, List.nil_append, List.getElem?_cons_zero, List.getElem?_cons_succ, List.set_cons_zero, List.set_cons_succ, Option.some.injEq, V.int.injEq, V.ref.injEq, V.bl.injEq, V.str.injEq, List.cons.injEq, HO.lst.injEq, HO.tup.injEq, and_assoc, and_true, true_and, exists_eq_left, exists_eq_left', exists_and_left, exists_eq, reduceCtorEq, false_and, and_false, or_false, false_or, exists_false, decide_eq_true_eq, CPow, CDivW, Int.reducePow, Int.reduceLT, Int.reduceLE, Int.reduceNeg, Int.reduceToNat, Int.reduceAbs, Nat.reducePow, Nat.reduceLT, Nat.reduceLeDiff, sizeLine_eq, Int.reduceMul, Int.reduceAdd, Int.reduceSub, Bool.not_eq_true', decide_eq_false_iff_not, scal, Bool.not_true, Bool.not_false, Bool.true_eq_false, Bool.false_eq_true, ite_false, ite_true, if_true, if_false, ite_self, forall_const, atI0, atI1, atI2, atI3, ixN20, ixN21, upd_same, upd_upd, Int.zero_add, CMul, Int.reduceSub, Nat.le_refl, Nat.zero_le, or_true, true_or, exists_const, Int.sub_zero, hz, bp, modF_waiting, rRemD, bD])
            refine ⟨tyL bD, _, _, bI, iv, wDs_plain _, wD_plain _, by rw [wD_depth]; decide, j, hj1, ?_⟩
            have cp : upd H3 D (HO.lst (acc.eraseIdx j)) p = some (HO.dK (modF S.value S.turn .non D)) := get_ne nDp.symm bp
            have cI : ImAll (upd H3 D (HO.lst (acc.eraseIdx j))) (((w0 :: ws0).filter fun x => decide (x ≠ minW w0 ws0)).map wD) (acc.eraseIdx j) := by
              rw [← hj2, ← map_erase]
              exact imsPut bD (bI.erase j)
            have cv : Im (upd H3 D (HO.lst (acc.eraseIdx j))) (wD (minW w0 ws0)) v := imPut bD iv
            have cB : Bt p l H (upd H3 D (HO.lst (acc.eraseIdx j))) := (aB.same s3).putN hD'
            have cD : upd H3 D (HO.lst (acc.eraseIdx j)) D = some (.lst (acc.eraseIdx j)) := upd_same
            generalize upd H3 D (HO.lst (acc.eraseIdx j)) = Hc at cp cI cv cB cD
            (try simp only [ne_0_1, ne_0_1b, ne_0_5, ne_0_5b, ne_0_6, ne_0_6b, ne_0_7, ne_0_7b, ne_1_0, ne_1_0b, ne_1_2, ne_1_2b, ne_1_3, ne_1_3b, ne_1_4, ne_1_4b, ne_1_5, ne_1_5b, ne_1_6, ne_1_6b, ne_1_7, ne_1_7b, ne_1_8, ne_1_8b, ne_2_1, ne_2_1b, ne_2_5, ne_2_5b, ne_2_6, ne_2_6b, ne_2_7, ne_2_7b, ne_3_1, ne_3_1b, ne_3_5, ne_3_5b, ne_3_6, ne_3_6b, ne_3_7, ne_3_7b, ne_4_1, ne_4_1b, ne_4_5, ne_4_5b, ne_4_6, ne_4_6b, ne_4_7, ne_4_7b, ne_5_0, ne_5_0b, ne_5_1, ne_5_1b, ne_5_2, ne_5_2b, ne_5_3, ne_5_3b, ne_5_4, ne_5_4b, ne_5_6, ne_5_6b, ne_5_7, ne_5_7b, ne_5_8, ne_5_8b, ne_6_0, ne_6_0b, ne_6_1, ne_6_1b, ne_6_2, ne_6_2b, ne_6_3, ne_6_3b, ne_6_4, ne_6_4b, ne_6_5, ne_6_5b, ne_6_7, ne_6_7b, ne_6_8, ne_6_8b, ne_7_0, ne_7_0b, ne_7_1, ne_7_1b, ne_7_2, ne_7_2b, ne_7_3, ne_7_3b, ne_7_4, ne_7_4b, ne_7_5, ne_7_5b, ne_7_6, ne_7_6b, ne_7_8, ne_7_8b, ne_8_1, ne_8_1b, ne_8_5, ne_8_5b, ne_8_6, ne_8_6b, ne_8_7, ne_8_7b, cxOf, Cx.nox, Cx.wish, tSeq, tAsg, tC, gName, tIfS, tTest, tOp, tUn, rU, rI0, rI, tVar, tNext, tBreak, tRet, tRetN, tDrop, tLst, tTup, tCons, tNil, tCB, tB, tOr, tAnd, tNot, tIf, tCall, tFor_eq, tLc_eq, iRng1, iRng2, iList, iTup, gTup, gTupH, gUnlH, gCons, gNil, gSub, rSetL, rIxL, rIxT, rIxLH, rIxTH, rSlTS, rCatS, rTupS, rIsiH, rLenS, V.ty.injEq, tyS_non, tyS_bl, tyS_int, tyS_str, tyS_ref, tyO_l, tyO_t, tyO_d, tyO_dt, kit_ll, kit_tt, kit_bb, kit_ii, kit_ib, kit_bi, kit_nt, kit_it, kit_st, kit_bt, kit_lt, kit_dt, kit_ni, kit_si, kit_ti, kit_li, kit_di, kit_nb, kit_ns, kit_is, kit_bs, kit_ss, kit_ts, kit_ls, kit_ds, kit_dd, lenS_ref, lenO_l, lenO_t,  rAppend, tM1, rIxS, tSl, tPart, tNoPart, tBM, tBM0, tDGetS, sDPutS, tTruS, truO_l, truO_t, truS_ref, truS_non, truS_bl, truS_int, tFld, sFld, sFldAug, rAdd, tMeth, tMake, tMakeK, List.take_succ_cons, List.take_zero, List.drop_succ_cons, List.drop_zero, List.take_nil, tIsN, tNotN, tAndV, tOrV, tNotV, putF, List.lookup, List.any_cons, List.any_nil, Sum.inr.injEq, HO.ins.injEq, HO.dK.injEq, eq_self, beq_self_eq_true, beq_iff_eq, decide_true, decide_false, Bool.or_true, Bool.true_or, Bool.or_false, Bool.false_or, tYes, rEq, rNe, _root_.L2.start, wipe, List.map_cons, List.map_nil, List.length_cons, List.length_nil, List.append_nil, Nat.reduceAdd, Nat.reduceSub, List.replicate_succ, List.replicate_zero, List.cons_append, List.nil_append, List.getElem?_cons_zero, List.getElem?_cons_succ, List.set_cons_zero, List.set_cons_succ, Option.some.injEq, V.int.injEq, V.ref.injEq, V.bl.injEq, V.str.injEq, List.cons.injEq, HO.lst.injEq, HO.tup.injEq, and_assoc, and_true, true_and, exists_eq_left, exists_eq_left', exists_and_left, exists_eq, reduceCtorEq, false_and, and_false, or_false, false_or, exists_false, decide_eq_true_eq, CPow, CDivW, Int.reducePow, Int.reduceLT, Int.reduceLE, Int.reduceNeg, Int.reduceToNat, Int.reduceAbs, Nat.reducePow, Nat.reduceLT, Nat.reduceLeDiff, sizeLine_eq, Int.reduceMul, Int.reduceAdd, Int.reduceSub, Bool.not_eq_true', decide_eq_false_iff_not, scal, Bool.not_true, Bool.not_false, Bool.true_eq_false, Bool.false_eq_true, ite_false, ite_true, if_true, if_false, ite_self, forall_const, atI0, atI1, atI2, atI3, ixN20, ixN21, upd_same, upd_upd, Int.zero_add, CMul, Int.reduceSub, Nat.le_refl, Nat.zero_le, or_true, true_or, exists_const, Int.sub_zero, cp, modF_waiting, modF_holder, modF_turn, modF_len, modF_put_waiting, modF_put_holder, modF_put_turn])
            intro q2 hq2
            obtain ⟨nq2p, hq2'⟩ := upd_none hq2
            refine kk D q2 [v] _ ⟨v, acc.eraseIdx j, get_new hq2 upd_same, imNew hq2 (imDk cp cv), get_new hq2 (get_ne nDp cD), imsNew hq2 (imsDk cp cI)⟩ hD' (cB.non _ hq2') (ne_of_none cD hq2').symm upd_same (im_cons (imNew hq2 (imDk cp cv)) im_nil) ((Bt.putP cB).new hq2)
def sp_Lock_free (C : Addr) : Sp := fun vs H Q _ => ∃ (p l : Addr) (S : LS) (t : Int × Int) (a : Int) (tv : V), vs = [.ref p, tv, .int a] ∧ LockAt C H p l S ∧ Im H (tD t) tv ∧ S.waiting.length ≤ 1000 ∧
  ∀ (l' q : Addr) (zs : List V) (H' : Hp), LockAt C H' p l' (freeS S t a).1 → H l' = none → H q = none → q ≠ l' → H' q = some (.lst zs) → ImAll H' ((freeS S t a).2.map wD) zs → Bt p l H H' → Q (.ref q) H'
theorem ok_Lock_free (T : Txt K mg) : FnOk P w K mg base CX0 2 T.f_Lock_free T.d_Lock_free ["self", "transaction", "attempt"] (sp_Lock_free T.C_Lock) := by
  refine Fun.ok T.F_Lock_free sc_Lock_free (fun vs H Q E h => ?_) (fun cdv A outer s H vs Q E hr h => ?_)
  · obtain ⟨p, l, S, t, a, tv, rfl, ⟨dx, hv, ws, hp, ih, hl, iw⟩, it, hlen, kk⟩ := h; rfl
  · obtain ⟨p, l, S, t, a, tv, rfl, ⟨dx, hv, ws, hp, ih, hl, iw⟩, it, hlen, kk⟩ := h
    have hu := hu_of hr
    refine ⟨_, (pss_cons (ps_fld (pv 0) (pe_lc (own := [("who", 3)]) (g := gName 3) rfl sc_Lock_free.nd (pi_list (pe_fld (pv 0) rfl)) (blkOk_by (N := N_Lock_free) (sc := defScope s_Lock_free) (by decide +kernel)) (fun _ _ _ _ _ => (pg_name (i := 3) sc_Lock_free.nd rfl (Or.inl rfl))) (fun _ _ _ _ _ => (pts_one (PW.pt (pw_or (pt_cmpR (op_neDK (K := K) rfl hr.units) (pe_ix ix_tupH (pv 3) pe_int (fun _ _ => rfl)) (pv 1) (nomark _)) (pw_or1 (pt_cmpR op_gt (pe_ix ix_tupH (pv 3) pe_int (fun _ _ => rfl)) (pv 2) (nomark _))))))) (fun _ _ _ _ _ => (pv 3))) rfl)
      (pss_cons (ps_if (PW.pt (pw_or (pt_cmp (pc_isN (pe_fld (pv 0) rfl))) (pw_or (pt_cmpR (op_neDK (K := K) rfl hr.units) (pe_ix ix_tupH (pe_fld (pv 0) rfl) pe_int (fun _ _ => rfl)) (pv 1) (nomark _)) (pw_or1 (pt_cmpR op_gt (pe_ix ix_tupH (pe_fld (pv 0) rfl) pe_int (fun _ _ => rfl)) (pv 2) (nomark _)))))) (pss_one (ps_ret (pe_lst pa_nil))) pss_nil)
      (pss_cons (ps_fld (pv 0) pe_non rfl)
      (pss_cons (ps_if (pt_not (pt_truS (pe_fld (pv 0) rfl) (by intro _; rfl))) (pss_one (ps_ret (pe_lst pa_nil))) pss_nil)
      (pss_cons (ps_set (i := 3) sc_Lock_free.nd rfl (Or.inr rfl) (pe_callB (call_minD rfl (hu65 hr)) (by rfl) T.z_min (by decide +kernel) (pa_cons (pe_fld (pv 0) rfl) pa_nil)))
      (pss_cons (ps_fld (pv 0) (pe_lc (own := [("other", 4)]) (g := gName 4) rfl sc_Lock_free.nd (pi_list (pe_fld (pv 0) rfl)) (blkOk_by (N := N_Lock_free) (sc := defScope s_Lock_free) (by decide +kernel)) (fun _ _ _ _ _ => (pg_name (i := 4) sc_Lock_free.nd rfl (Or.inl rfl))) (fun _ _ _ _ _ => (pts_one (pt_cmpR (op_neDK (K := K) rfl hr.units) (pv 4) (pv 3) (nomark _)))) (fun _ _ _ _ _ => (pv 4))) rfl)
      (pss_cons (ps_expr (pe_meth (pv 0) T.cl_Lock T.m_Lock_grant (ok_Lock_grant T) (hr.mono (by decide)) T.b_Lock_grant .nil pass0 (pa_cons (pv 3) pa_nil)))
      (pss_one (ps_ret (pe_lst (pa_cons (pv 3) pa_nil))))))))))), ?_⟩
    have hwl := iw.len
    rw [List.length_map] at hwl
    (try simp only [ne_0_1, ne_0_1b, ne_0_5, ne_0_5b, ne_0_6, ne_0_6b, ne_0_7, ne_0_7b, ne_1_0, ne_1_0b, ne_1_2, ne_1_2b, ne_1_3, ne_1_3b, ne_1_4, ne_1_4b, ne_1_5, ne_1_5b, ne_1_6, ne_1_6b, ne_1_7, ne_1_7b, ne_1_8, ne_1_8b, ne_2_1, ne_2_1b, ne_2_5, ne_2_5b, ne_2_6, ne_2_6b, ne_2_7, ne_2_7b, ne_3_1, ne_3_1b, ne_3_5, ne_3_5b, ne_3_6, ne_3_6b, ne_3_7, ne_3_7b, ne_4_1, ne_4_1b, ne_4_5, ne_4_5b, ne_4_6, ne_4_6b, ne_4_7, ne_4_7b, ne_5_0, ne_5_0b, ne_5_1, ne_5_1b, ne_5_2, ne_5_2b, ne_5_3, ne_5_3b, ne_5_4, ne_5_4b, ne_5_6, ne_5_6b, ne_5_7, ne_5_7b, ne_5_8, ne_5_8b, ne_6_0, ne_6_0b, ne_6_1, ne_6_1b, ne_6_2, ne_6_2b, ne_6_3, ne_6_3b, ne_6_4, ne_6_4b, ne_6_5, ne_6_5b, ne_6_7, ne_6_7b, ne_6_8, ne_6_8b, ne_7_0, ne_7_0b, ne_7_1, ne_7_1b, ne_7_2, ne_7_2b, ne_7_3, ne_7_3b, ne_7_4, ne_7_4b, ne_7_5, ne_7_5b, ne_7_6, ne_7_6b, ne_7_8, ne_7_8b, ne_8_1, ne_8_1b, ne_8_5, ne_8_5b, ne_8_6, ne_8_6b, ne_8_7, ne_8_7b, cxOf, Cx.nox, Cx.wish, tSeq, tAsg, tC, gName, tIfS, tTest, tOp, tUn, rU, rI0, rI, tVar, tNext, tBreak, tRet, tRetN, tDrop, tLst, tTup, tCons, tNil, tCB, tB, tOr, tAnd, tNot, tIf, tCall, tFor_eq, tLc_eq, iRng1, iRng2, iList, iTup, gTup, gTupH, gUnlH, gCons, gNil, gSub, rSetL, rIxL, rIxT, rIxLH, rIxTH, rSlTS, rCatS, rTupS, rIsiH, rLenS, V.ty.injEq, tyS_non, tyS_bl, tyS_int, tyS_str, tyS_ref, tyO_l, tyO_t, tyO_d, tyO_dt, kit_ll, kit_tt, kit_bb, kit_ii, kit_ib, kit_bi, kit_nt, kit_it, kit_st, kit_bt, kit_lt, kit_dt, kit_ni, kit_si, kit_ti, kit_li, kit_di, kit_nb, kit_ns, kit_is, kit_bs, kit_ss, kit_ts, kit_ls, kit_ds, kit_dd, lenS_ref, lenO_l, lenO_t,  rAppend, tM1, rIxS, tSl, tPart, tNoPart, tBM, tBM0, tDGetS, sDPutS, tTruS, truO_l, truO_t, truS_ref, truS_non, truS_bl, truS_int, tFld, sFld, sFldAug, rAdd, tMeth, tMake, tMakeK, List.take_succ_cons, List.take_zero, List.drop_succ_cons, List.drop_zero, List.take_nil, tIsN, tNotN, tAndV, tOrV, tNotV, putF, List.lookup, List.any_cons, List.any_nil, Sum.inr.injEq, HO.ins.injEq, HO.dK.injEq, eq_self, beq_self_eq_true, beq_iff_eq, decide_true, decide_false, Bool.or_true, Bool.true_or, Bool.or_false, Bool.false_or, tYes, rEq, rNe, _root_.L2.start, wipe, List.map_cons, List.map_nil, List.length_cons, List.length_nil, List.append_nil, Nat.reduceAdd, Nat.reduceSub, List.replicate_succ, List.replicate_zero, List.cons_append, List.nil_append, List.getElem?_cons_zero, List.getElem?_cons_succ, List.set_cons_zero, List.set_cons_succ, Option.some.injEq, V.int.injEq, V.ref.injEq, V.bl.injEq, V.str.injEq, List.cons.injEq, HO.lst.injEq, HO.tup.injEq, and_assoc, and_true, true_and, exists_eq_left, exists_eq_left', exists_and_left, exists_eq, reduceCtorEq, false_and, and_false, or_false, false_or, exists_false, decide_eq_true_eq, CPow, CDivW, Int.reducePow, Int.reduceLT, Int.reduceLE, Int.reduceNeg, Int.reduceToNat, Int.reduceAbs, Nat.reducePow, Nat.reduceLT, Nat.reduceLeDiff, sizeLine_eq, Int.reduceMul, Int.reduceAdd, Int.reduceSub, Bool.not_eq_true', decide_eq_false_iff_not, scal, Bool.not_true, Bool.not_false, Bool.true_eq_false, Bool.false_eq_true, ite_false, ite_true, if_true, if_false, ite_self, forall_const, atI0, atI1, atI2, atI3, ixN20, ixN21, upd_same, upd_upd, Int.zero_add, CMul, Int.reduceSub, Nat.le_refl, Nat.zero_le, or_true, true_or, exists_const, Int.sub_zero, hp, T.cl_Lock, T.n_Lock_waiting, T.n_Lock_holder, lockF])
    refine ⟨⟨_, SqL.of hl⟩, fun D hD' => Lcl.list ws (fun j H' => ∃ acc, H' D = some (.lst acc) ∧ ImAll H' (((S.waiting.take j).filter fun w => decide (w.tr ≠ t ∨ a < w.2.2)).map wD) acc ∧ Same H H') ⟨[], upd_same, im_nil, same_new hD'⟩ ?_ ?_ ?_⟩
    · rintro j H2 hj ⟨acc, h1, h2, s2⟩
      exact SqL.of (s2 _ _ hl)
    · rintro j x H2 hj ⟨acc, h1, h2, s2⟩
      obtain ⟨w, hw, iw2⟩ := ims_who (Same.ims s2 iw) hj
      obtain ⟨q, tq, rfl, hq, itq⟩ := wD_at iw2
      have hal := h2.len
      rw [List.length_map] at hal
      have hfl := List.length_filter_le (fun w : Who => decide (w.tr ≠ t ∨ a < w.2.2)) (S.waiting.take j)
      rw [List.length_take] at hfl
      (try simp only [ne_0_1, ne_0_1b, ne_0_5, ne_0_5b, ne_0_6, ne_0_6b, ne_0_7, ne_0_7b, ne_1_0, ne_1_0b, ne_1_2, ne_1_2b, ne_1_3, ne_1_3b, ne_1_4, ne_1_4b, ne_1_5, ne_1_5b, ne_1_6, ne_1_6b, ne_1_7, ne_1_7b, ne_1_8, ne_1_8b, ne_2_1, ne_2_1b, ne_2_5, ne_2_5b, ne_2_6, ne_2_6b, ne_2_7, ne_2_7b, ne_3_1, ne_3_1b, ne_3_5, ne_3_5b, ne_3_6, ne_3_6b, ne_3_7, ne_3_7b, ne_4_1, ne_4_1b, ne_4_5, ne_4_5b, ne_4_6, ne_4_6b, ne_4_7, ne_4_7b, ne_5_0, ne_5_0b, ne_5_1, ne_5_1b, ne_5_2, ne_5_2b, ne_5_3, ne_5_3b, ne_5_4, ne_5_4b, ne_5_6, ne_5_6b, ne_5_7, ne_5_7b, ne_5_8, ne_5_8b, ne_6_0, ne_6_0b, ne_6_1, ne_6_1b, ne_6_2, ne_6_2b, ne_6_3, ne_6_3b, ne_6_4, ne_6_4b, ne_6_5, ne_6_5b, ne_6_7, ne_6_7b, ne_6_8, ne_6_8b, ne_7_0, ne_7_0b, ne_7_1, ne_7_1b, ne_7_2, ne_7_2b, ne_7_3, ne_7_3b, ne_7_4, ne_7_4b, ne_7_5, ne_7_5b, ne_7_6, ne_7_6b, ne_7_8, ne_7_8b, ne_8_1, ne_8_1b, ne_8_5, ne_8_5b, ne_8_6, ne_8_6b, ne_8_7, ne_8_7b, cxOf, Cx.nox, Cx.wish, tSeq, tAsg, tC, gName, tIfS, tTest, tOp, tUn, rU, rI0, rI, tVar, tNext, tBreak, tRet, tRetN, tDrop, tLst, tTup, tCons, tNil, tCB, tB, tOr, tAnd, tNot, tIf, tCall, tFor_eq, tLc_eq, iRng1, iRng2, iList, iTup, gTup, gTupH, gUnlH, gCons, gNil, gSub, rSetL, rIxL, rIxT, rIxLH, rIxTH, rSlTS, rCatS, rTupS, rIsiH, rLenS, V.ty.injEq, tyS_non, tyS_bl, tyS_int, tyS_str, tyS_ref, tyO_l, tyO_t, tyO_d, tyO_dt, kit_ll, kit_tt, kit_bb, kit_ii, kit_ib, kit_bi, kit_nt, kit_it, kit_st, kit_bt, kit_lt, kit_dt, kit_ni, kit_si, kit_ti, kit_li, kit_di, kit_nb, kit_ns, kit_is, kit_bs, kit_ss, kit_ts, kit_ls, kit_ds, kit_dd, lenS_ref, lenO_l, lenO_t,  rAppend, tM1, rIxS, tSl, tPart, tNoPart, tBM, tBM0, tDGetS, sDPutS, tTruS, truO_l, truO_t, truS_ref, truS_non, truS_bl, truS_int, tFld, sFld, sFldAug, rAdd, tMeth, tMake, tMakeK, List.take_succ_cons, List.take_zero, List.drop_succ_cons, List.drop_zero, List.take_nil, tIsN, tNotN, tAndV, tOrV, tNotV, putF, List.lookup, List.any_cons, List.any_nil, Sum.inr.injEq, HO.ins.injEq, HO.dK.injEq, eq_self, beq_self_eq_true, beq_iff_eq, decide_true, decide_false, Bool.or_true, Bool.true_or, Bool.or_false, Bool.false_or, tYes, rEq, rNe, _root_.L2.start, wipe, List.map_cons, List.map_nil, List.length_cons, List.length_nil, List.append_nil, Nat.reduceAdd, Nat.reduceSub, List.replicate_succ, List.replicate_zero, List.cons_append, List.nil_append, List.getElem?_cons_zero, List.getElem?_cons_succ, List.set_cons_zero, List.set_cons_succ, Option.some.injEq, V.int.injEq, V.ref.injEq, V.bl.injEq, V.str.injEq, List.cons.injEq, HO.lst.injEq, HO.tup.injEq, and_assoc, and_true, true_and, exists_eq_left, exists_eq_left', exists_and_left, exists_eq, reduceCtorEq, false_and, and_false, or_false, false_or, exists_false, decide_eq_true_eq, CPow, CDivW, Int.reducePow, Int.reduceLT, Int.reduceLE, Int.reduceNeg, Int.reduceToNat, Int.reduceAbs, Nat.reducePow, Nat.reduceLT, Nat.reduceLeDiff, sizeLine_eq, Int.reduceMul, Int.reduceAdd, Int.reduceSub, Bool.not_eq_true', decide_eq_false_iff_not, scal, Bool.not_true, Bool.not_false, Bool.true_eq_false, Bool.false_eq_true, ite_false, ite_true, if_true, if_false, ite_self, forall_const, atI0, atI1, atI2, atI3, ixN20, ixN21, upd_same, upd_upd, Int.zero_add, CMul, Int.reduceSub, Nat.le_refl, Nat.zero_le, or_true, true_or, exists_const, Int.sub_zero, hq, rNeD])
      refine ⟨_, Im.dp _ _ itq, _, Im.dp _ _ (Same.im s2 it), tD_shaped _, tD_shaped _, ?_⟩
      rw [tD_eqv, filter_take hw]
      by_cases hP : w.tr ≠ t ∨ a < w.2.2
      · simp only [decide_eq_true hP, if_true, decide_eq_false_iff_not]
        have A : ∃ acc, H2 D = some (HO.lst acc) ∧ acc.length < 16777216 ∧ ImAll (upd H2 D (HO.lst (acc ++ [V.ref q]))) (((S.waiting.take j).filter (fun w => decide (w.tr ≠ t ∨ a < w.2.2)) ++ [w]).map wD) (acc ++ [V.ref q]) ∧ Same H (upd H2 D (HO.lst (acc ++ [V.ref q]))) := by
          refine ⟨acc, h1, by omega, ?_, fun b o e => get_ne (ne_of_none e hD') (s2 b o e)⟩
          rw [List.map_append]
          exact ims_app h1 h2 iw2
        by_cases e1 : w.tr = t
        · have e2 : a < w.2.2 := hP.resolve_left (fun z => z e1)
          rw [if_neg (fun z => z e1), if_pos e2]; exact A
        · rw [if_pos e1]; exact A
      · simp only [decide_eq_false hP, Bool.false_eq_true, if_false, decide_eq_false_iff_not]
        have e1 : w.tr = t := Classical.byContradiction fun z => hP (.inl z)
        have e2 : ¬ a < w.2.2 := fun z => hP (.inr z)
        rw [if_neg (fun z => z e1), if_neg e2]
        exact ⟨acc, h1, h2, s2⟩
    · rintro H2 ⟨acc, h1, h2, s2⟩
      have hwl2 : ws.length = S.waiting.length := hwl
      rw [hwl2, List.take_length] at h2
      have hp2 := s2 _ _ hp
      have nDp : D ≠ p := (ne_of_none hp hD').symm
      have bt : Bt p l H H2 := Bt.of s2
      cases hS : S.holder with
      | none =>
        rw [hS] at ih
        have := hD_none ih
        subst this
        have e : freeS S t a = (⟨S.value, S.turn, none, S.left t a⟩, []) := by unfold freeS; rw [hS]
        rw [e] at kk
        (try simp only [ne_0_1, ne_0_1b, ne_0_5, ne_0_5b, ne_0_6, ne_0_6b, ne_0_7, ne_0_7b, ne_1_0, ne_1_0b, ne_1_2, ne_1_2b, ne_1_3, ne_1_3b, ne_1_4, ne_1_4b, ne_1_5, ne_1_5b, ne_1_6, ne_1_6b, ne_1_7, ne_1_7b, ne_1_8, ne_1_8b, ne_2_1, ne_2_1b, ne_2_5, ne_2_5b, ne_2_6, ne_2_6b, ne_2_7, ne_2_7b, ne_3_1, ne_3_1b, ne_3_5, ne_3_5b, ne_3_6, ne_3_6b, ne_3_7, ne_3_7b, ne_4_1, ne_4_1b, ne_4_5, ne_4_5b, ne_4_6, ne_4_6b, ne_4_7, ne_4_7b, ne_5_0, ne_5_0b, ne_5_1, ne_5_1b, ne_5_2, ne_5_2b, ne_5_3, ne_5_3b, ne_5_4, ne_5_4b, ne_5_6, ne_5_6b, ne_5_7, ne_5_7b, ne_5_8, ne_5_8b, ne_6_0, ne_6_0b, ne_6_1, ne_6_1b, ne_6_2, ne_6_2b, ne_6_3, ne_6_3b, ne_6_4, ne_6_4b, ne_6_5, ne_6_5b, ne_6_7, ne_6_7b, ne_6_8, ne_6_8b, ne_7_0, ne_7_0b, ne_7_1, ne_7_1b, ne_7_2, ne_7_2b, ne_7_3, ne_7_3b, ne_7_4, ne_7_4b, ne_7_5, ne_7_5b, ne_7_6, ne_7_6b, ne_7_8, ne_7_8b, ne_8_1, ne_8_1b, ne_8_5, ne_8_5b, ne_8_6, ne_8_6b, ne_8_7, ne_8_7b, cxOf, Cx.nox, Cx.wish, tSeq, tAsg, tC, gName, tIfS, tTest, tOp, tUn, rU, rI0, rI, tVar, tNext, tBreak, tRet, tRetN, tDrop, tLst, tTup, tCons, tNil, tCB, tB, tOr, tAnd, tNot, tIf, tCall, tFor_eq, tLc_eq, iRng1, iRng2, iList, iTup, gTup, gTupH, gUnlH, gCons, gNil, gSub, rSetL, rIxL, rIxT, rIxLH, rIxTH, rSlTS, rCatS, rTupS, rIsiH, rLenS, V.ty.injEq, tyS_non, tyS_bl, tyS_int, tyS_str, tyS_ref, tyO_l, tyO_t, tyO_d, tyO_dt, kit_ll, kit_tt, kit_bb, kit_ii, kit_ib, kit_bi, kit_nt, kit_it, kit_st, kit_bt, kit_lt, kit_dt, kit_ni, kit_si, kit_ti, kit_li, kit_di, kit_nb, kit_ns, kit_is, kit_bs, kit_ss, kit_ts, kit_ls, kit_ds, kit_dd, lenS_ref, lenO_l, lenO_t,  rAppend, tM1, rIxS, tSl, tPart, tNoPart, tBM, tBM0, tDGetS, sDPutS, tTruS, truO_l, truO_t, truS_ref, truS_non, truS_bl, truS_int, tFld, sFld, sFldAug, rAdd, tMeth, tMake, tMakeK, List.take_succ_cons, List.take_zero, List.drop_succ_cons, List.drop_zero, List.take_nil, tIsN, tNotN, tAndV, tOrV, tNotV, putF, List.lookup, List.any_cons, List.any_nil, Sum.inr.injEq, HO.ins.injEq, HO.dK.injEq, eq_self, beq_self_eq_true, beq_iff_eq, decide_true, decide_false, Bool.or_true, Bool.true_or, Bool.or_false, Bool.false_or, tYes, rEq, rNe, _root_.L2.start, wipe, List.map_cons, List.map_nil, List.length_cons, List.length_nil, List.append_nil, Nat.reduceAdd, Nat.reduceSub, List.replicate_succ, List.replicate_zero, List.cons_append, List.nil_append, List.getElem?_cons_zero, List.getElem?_cons_succ, List.set_cons_zero, List.set_cons_succ, Option.some.injEq, V.int.injEq, V.ref.injEq, V.bl.injEq, V.str.injEq, List.cons.injEq, HO.lst.injEq, HO.tup.injEq, and_assoc, and_true, true_and, exists_eq_left, exists_eq_left', exists_and_left, exists_eq, reduceCtorEq, false_and, and_false, or_false, false_or, exists_false, decide_eq_true_eq, CPow, CDivW, Int.reducePow, Int.reduceLT, Int.reduceLE, Int.reduceNeg, Int.reduceToNat, Int.reduceAbs, Nat.reducePow, Nat.reduceLT, Nat.reduceLeDiff, sizeLine_eq, Int.reduceMul, Int.reduceAdd, Int.reduceSub, Bool.not_eq_true', decide_eq_false_iff_not, scal, Bool.not_true, Bool.not_false, Bool.true_eq_false, Bool.false_eq_true, ite_false, ite_true, if_true, if_false, ite_self, forall_const, atI0, atI1, atI2, atI3, ixN20, ixN21, upd_same, upd_upd, Int.zero_add, CMul, Int.reduceSub, Nat.le_refl, Nat.zero_le, or_true, true_or, exists_const, Int.sub_zero, hp2, T.cl_Lock, T.n_Lock_waiting, T.n_Lock_holder, lockF])
        intro q hq
        obtain ⟨nqp, hq'⟩ := upd_none hq
        exact kk D q [] _ ⟨dx, .non, acc, get_new hq upd_same, im_non, get_new hq (get_ne nDp h1), imsNew hq (imsIns hp2 h2)⟩ hD' (bt.non _ hq') (ne_of_none h1 hq').symm upd_same im_nil (Bt.new (Bt.putP bt) hq)
      | some h =>
        rw [hS] at ih
        obtain ⟨qh, th, rfl, hqh, ith⟩ := hD_ref ih
        have hq2 := s2 _ _ hqh
        have nqp : qh ≠ p := (ne_it hp hqh).symm
        (try simp only [ne_0_1, ne_0_1b, ne_0_5, ne_0_5b, ne_0_6, ne_0_6b, ne_0_7, ne_0_7b, ne_1_0, ne_1_0b, ne_1_2, ne_1_2b, ne_1_3, ne_1_3b, ne_1_4, ne_1_4b, ne_1_5, ne_1_5b, ne_1_6, ne_1_6b, ne_1_7, ne_1_7b, ne_1_8, ne_1_8b, ne_2_1, ne_2_1b, ne_2_5, ne_2_5b, ne_2_6, ne_2_6b, ne_2_7, ne_2_7b, ne_3_1, ne_3_1b, ne_3_5, ne_3_5b, ne_3_6, ne_3_6b, ne_3_7, ne_3_7b, ne_4_1, ne_4_1b, ne_4_5, ne_4_5b, ne_4_6, ne_4_6b, ne_4_7, ne_4_7b, ne_5_0, ne_5_0b, ne_5_1, ne_5_1b, ne_5_2, ne_5_2b, ne_5_3, ne_5_3b, ne_5_4, ne_5_4b, ne_5_6, ne_5_6b, ne_5_7, ne_5_7b, ne_5_8, ne_5_8b, ne_6_0, ne_6_0b, ne_6_1, ne_6_1b, ne_6_2, ne_6_2b, ne_6_3, ne_6_3b, ne_6_4, ne_6_4b, ne_6_5, ne_6_5b, ne_6_7, ne_6_7b, ne_6_8, ne_6_8b, ne_7_0, ne_7_0b, ne_7_1, ne_7_1b, ne_7_2, ne_7_2b, ne_7_3, ne_7_3b, ne_7_4, ne_7_4b, ne_7_5, ne_7_5b, ne_7_6, ne_7_6b, ne_7_8, ne_7_8b, ne_8_1, ne_8_1b, ne_8_5, ne_8_5b, ne_8_6, ne_8_6b, ne_8_7, ne_8_7b, cxOf, Cx.nox, Cx.wish, tSeq, tAsg, tC, gName, tIfS, tTest, tOp, tUn, rU, rI0, rI, tVar, tNext, tBreak, tRet, tRetN, tDrop, tLst, tTup, tCons, tNil, tCB, tB, tOr, tAnd, tNot, tIf, tCall, tFor_eq, tLc_eq, iRng1, iRng2, iList, iTup, gTup, gTupH, gUnlH, gCons, gNil, gSub, rSetL, rIxL, rIxT, rIxLH, rIxTH, rSlTS, rCatS, rTupS, rIsiH, rLenS, V.ty.injEq, tyS_non, tyS_bl, tyS_int, tyS_str, tyS_ref, tyO_l, tyO_t, tyO_d, tyO_dt, kit_ll, kit_tt, kit_bb, kit_ii, kit_ib, kit_bi, kit_nt, kit_it, kit_st, kit_bt, kit_lt, kit_dt, kit_ni, kit_si, kit_ti, kit_li, kit_di, kit_nb, kit_ns, kit_is, kit_bs, kit_ss, kit_ts, kit_ls, kit_ds, kit_dd, lenS_ref, lenO_l, lenO_t,  rAppend, tM1, rIxS, tSl, tPart, tNoPart, tBM, tBM0, tDGetS, sDPutS, tTruS, truO_l, truO_t, truS_ref, truS_non, truS_bl, truS_int, tFld, sFld, sFldAug, rAdd, tMeth, tMake, tMakeK, List.take_succ_cons, List.take_zero, List.drop_succ_cons, List.drop_zero, List.take_nil, tIsN, tNotN, tAndV, tOrV, tNotV, putF, List.lookup, List.any_cons, List.any_nil, Sum.inr.injEq, HO.ins.injEq, HO.dK.injEq, eq_self, beq_self_eq_true, beq_iff_eq, decide_true, decide_false, Bool.or_true, Bool.true_or, Bool.or_false, Bool.false_or, tYes, rEq, rNe, _root_.L2.start, wipe, List.map_cons, List.map_nil, List.length_cons, List.length_nil, List.append_nil, Nat.reduceAdd, Nat.reduceSub, List.replicate_succ, List.replicate_zero, List.cons_append, List.nil_append, List.getElem?_cons_zero, List.getElem?_cons_succ, List.set_cons_zero, List.set_cons_succ, Option.some.injEq, V.int.injEq, V.ref.injEq, V.bl.injEq, V.str.injEq, List.cons.injEq, HO.lst.injEq, HO.tup.injEq, and_assoc, and_true, true_and, exists_eq_left, exists_eq_left', exists_and_left, exists_eq, reduceCtorEq, false_and, and_false, or_false, false_or, exists_false, decide_eq_true_eq, CPow, CDivW, Int.reducePow, Int.reduceLT, Int.reduceLE, Int.reduceNeg, Int.reduceToNat, Int.reduceAbs, Nat.reducePow, Nat.reduceLT, Nat.reduceLeDiff, sizeLine_eq, Int.reduceMul, Int.reduceAdd, Int.reduceSub, Bool.not_eq_true', decide_eq_false_iff_not, scal, Bool.not_true, Bool.not_false, Bool.true_eq_false, Bool.false_eq_true, ite_false, ite_true, if_true, if_false, ite_self, forall_const, atI0, atI1, atI2, atI3, ixN20, ixN21, upd_same, upd_upd, Int.zero_add, CMul, Int.reduceSub, Nat.le_refl, Nat.zero_le, or_true, true_or, exists_const, Int.sub_zero, hp2, T.cl_Lock, T.n_Lock_waiting, T.n_Lock_holder, lockF, upd_ne nqp, hq2, rNeD])
        refine ⟨_, Im.dp _ _ (imIns hp2 (Same.im s2 ith)), _, Im.dp _ _ (imIns hp2 (Same.im s2 it)), tD_shaped _, tD_shaped _, ?_⟩
        rw [tD_eqv]
        (try simp only [ne_0_1, ne_0_1b, ne_0_5, ne_0_5b, ne_0_6, ne_0_6b, ne_0_7, ne_0_7b, ne_1_0, ne_1_0b, ne_1_2, ne_1_2b, ne_1_3, ne_1_3b, ne_1_4, ne_1_4b, ne_1_5, ne_1_5b, ne_1_6, ne_1_6b, ne_1_7, ne_1_7b, ne_1_8, ne_1_8b, ne_2_1, ne_2_1b, ne_2_5, ne_2_5b, ne_2_6, ne_2_6b, ne_2_7, ne_2_7b, ne_3_1, ne_3_1b, ne_3_5, ne_3_5b, ne_3_6, ne_3_6b, ne_3_7, ne_3_7b, ne_4_1, ne_4_1b, ne_4_5, ne_4_5b, ne_4_6, ne_4_6b, ne_4_7, ne_4_7b, ne_5_0, ne_5_0b, ne_5_1, ne_5_1b, ne_5_2, ne_5_2b, ne_5_3, ne_5_3b, ne_5_4, ne_5_4b, ne_5_6, ne_5_6b, ne_5_7, ne_5_7b, ne_5_8, ne_5_8b, ne_6_0, ne_6_0b, ne_6_1, ne_6_1b, ne_6_2, ne_6_2b, ne_6_3, ne_6_3b, ne_6_4, ne_6_4b, ne_6_5, ne_6_5b, ne_6_7, ne_6_7b, ne_6_8, ne_6_8b, ne_7_0, ne_7_0b, ne_7_1, ne_7_1b, ne_7_2, ne_7_2b, ne_7_3, ne_7_3b, ne_7_4, ne_7_4b, ne_7_5, ne_7_5b, ne_7_6, ne_7_6b, ne_7_8, ne_7_8b, ne_8_1, ne_8_1b, ne_8_5, ne_8_5b, ne_8_6, ne_8_6b, ne_8_7, ne_8_7b, cxOf, Cx.nox, Cx.wish, tSeq, tAsg, tC, gName, tIfS, tTest, tOp, tUn, rU, rI0, rI, tVar, tNext, tBreak, tRet, tRetN, tDrop, tLst, tTup, tCons, tNil, tCB, tB, tOr, tAnd, tNot, tIf, tCall, tFor_eq, tLc_eq, iRng1, iRng2, iList, iTup, gTup, gTupH, gUnlH, gCons, gNil, gSub, rSetL, rIxL, rIxT, rIxLH, rIxTH, rSlTS, rCatS, rTupS, rIsiH, rLenS, V.ty.injEq, tyS_non, tyS_bl, tyS_int, tyS_str, tyS_ref, tyO_l, tyO_t, tyO_d, tyO_dt, kit_ll, kit_tt, kit_bb, kit_ii, kit_ib, kit_bi, kit_nt, kit_it, kit_st, kit_bt, kit_lt, kit_dt, kit_ni, kit_si, kit_ti, kit_li, kit_di, kit_nb, kit_ns, kit_is, kit_bs, kit_ss, kit_ts, kit_ls, kit_ds, kit_dd, lenS_ref, lenO_l, lenO_t,  rAppend, tM1, rIxS, tSl, tPart, tNoPart, tBM, tBM0, tDGetS, sDPutS, tTruS, truO_l, truO_t, truS_ref, truS_non, truS_bl, truS_int, tFld, sFld, sFldAug, rAdd, tMeth, tMake, tMakeK, List.take_succ_cons, List.take_zero, List.drop_succ_cons, List.drop_zero, List.take_nil, tIsN, tNotN, tAndV, tOrV, tNotV, putF, List.lookup, List.any_cons, List.any_nil, Sum.inr.injEq, HO.ins.injEq, HO.dK.injEq, eq_self, beq_self_eq_true, beq_iff_eq, decide_true, decide_false, Bool.or_true, Bool.true_or, Bool.or_false, Bool.false_or, tYes, rEq, rNe, _root_.L2.start, wipe, List.map_cons, List.map_nil, List.length_cons, List.length_nil, List.append_nil, Nat.reduceAdd, Nat.reduceSub, List.replicate_succ, List.replicate_zero, List.cons_append, List.nil_append, List.getElem?_cons_zero, List.getElem?_cons_succ, List.set_cons_zero, List.set_cons_succ, Option.some.injEq, V.int.injEq, V.ref.injEq, V.bl.injEq, V.str.injEq, List.cons.injEq, HO.lst.injEq, HO.tup.injEq, and_assoc, and_true, true_and, exists_eq_left, exists_eq_left', exists_and_left, exists_eq, reduceCtorEq, false_and, and_false, or_false, false_or, exists_false, decide_eq_true_eq, CPow, CDivW, Int.reducePow, Int.reduceLT, Int.reduceLE, Int.reduceNeg, Int.reduceToNat, Int.reduceAbs, Nat.reducePow, Nat.reduceLT, Nat.reduceLeDiff, sizeLine_eq, Int.reduceMul, Int.reduceAdd, Int.reduceSub, Bool.not_eq_true', decide_eq_false_iff_not, scal, Bool.not_true, Bool.not_false, Bool.true_eq_false, Bool.false_eq_true, ite_false, ite_true, if_true, if_false, ite_self, forall_const, atI0, atI1, atI2, atI3, ixN20, ixN21, upd_same, upd_upd, Int.zero_add, CMul, Int.reduceSub, Nat.le_refl, Nat.zero_le, or_true, true_or, exists_const, Int.sub_zero, hp2, T.cl_Lock, T.n_Lock_waiting, T.n_Lock_holder, lockF, upd_ne nqp, hq2])
        by_cases hP : h.tr ≠ t ∨ a < h.2.2
        · have e : freeS S t a = (⟨S.value, S.turn, some h, S.left t a⟩, []) := by unfold freeS; rw [hS]; simp only []; rw [if_pos hP]
          rw [e] at kk
          have A : ∀ (q : Addr), upd H2 p (HO.ins T.C_Lock dx [(Str.ofString "value", V.int S.value), (Str.ofString "turn", V.int S.turn), (Str.ofString "holder", V.ref qh), (Str.ofString "_waiting", V.ref D)]) q = none →
              Q (V.ref q) (upd (upd H2 p (HO.ins T.C_Lock dx [(Str.ofString "value", V.int S.value), (Str.ofString "turn", V.int S.turn), (Str.ofString "holder", V.ref qh), (Str.ofString "_waiting", V.ref D)])) q (HO.lst [])) := by
            intro q hq
            obtain ⟨nqp, hq'⟩ := upd_none hq
            exact kk D q [] _ ⟨dx, .ref qh, acc, get_new hq upd_same, imNew hq (imIns hp2 (Same.im s2 ih)), get_new hq (get_ne nDp h1), imsNew hq (imsIns hp2 h2)⟩ hD' (bt.non _ hq') (ne_of_none h1 hq').symm upd_same im_nil (Bt.new (Bt.putP bt) hq)
          by_cases e1 : h.tr = t
          · rw [if_neg (fun z => z e1), if_pos (hP.resolve_left fun z => z e1)]; exact A
          · rw [if_pos e1]; exact A
        · have e1 : h.tr = t := Classical.byContradiction fun z => hP (.inl z)
          have e2 : ¬ a < h.2.2 := fun z => hP (.inr z)
          rw [if_neg (fun z => z e1), if_neg e2]
          have h2' : ImAll H2 ((S.left t a).map wD) acc := h2
          have hal := h2'.len
          rw [List.length_map] at hal
          have hll := left_len S t a
          cases hL : S.left t a with
          | nil =>
            have e : freeS S t a = (⟨S.value, S.turn, none, []⟩, []) := by unfold freeS; rw [hS]; simp only []; rw [if_neg hP, hL]
            rw [hL] at hal
            have ea : acc = [] := List.length_eq_zero_iff.mp hal
            subst ea
            (try simp only [ne_0_1, ne_0_1b, ne_0_5, ne_0_5b, ne_0_6, ne_0_6b, ne_0_7, ne_0_7b, ne_1_0, ne_1_0b, ne_1_2, ne_1_2b, ne_1_3, ne_1_3b, ne_1_4, ne_1_4b, ne_1_5, ne_1_5b, ne_1_6, ne_1_6b, ne_1_7, ne_1_7b, ne_1_8, ne_1_8b, ne_2_1, ne_2_1b, ne_2_5, ne_2_5b, ne_2_6, ne_2_6b, ne_2_7, ne_2_7b, ne_3_1, ne_3_1b, ne_3_5, ne_3_5b, ne_3_6, ne_3_6b, ne_3_7, ne_3_7b, ne_4_1, ne_4_1b, ne_4_5, ne_4_5b, ne_4_6, ne_4_6b, ne_4_7, ne_4_7b, ne_5_0, ne_5_0b, ne_5_1, ne_5_1b, ne_5_2, ne_5_2b, ne_5_3, ne_5_3b, ne_5_4, ne_5_4b, ne_5_6, ne_5_6b, ne_5_7, ne_5_7b, ne_5_8, ne_5_8b, ne_6_0, ne_6_0b, ne_6_1, ne_6_1b, ne_6_2, ne_6_2b, ne_6_3, ne_6_3b, ne_6_4, ne_6_4b, ne_6_5, ne_6_5b, ne_6_7, ne_6_7b, ne_6_8, ne_6_8b, ne_7_0, ne_7_0b, ne_7_1, ne_7_1b, ne_7_2, ne_7_2b, ne_7_3, ne_7_3b, ne_7_4, ne_7_4b, ne_7_5, ne_7_5b, ne_7_6, ne_7_6b, ne_7_8, ne_7_8b, ne_8_1, ne_8_1b, ne_8_5, ne_8_5b, ne_8_6, ne_8_6b, ne_8_7, ne_8_7b, cxOf, Cx.nox, Cx.wish, tSeq, tAsg, tC, gName, tIfS, tTest, tOp, tUn, rU, rI0, rI, tVar, tNext, tBreak, tRet, tRetN, tDrop, tLst, tTup, tCons, tNil, tCB, tB, tOr, tAnd, tNot, tIf, tCall, tFor_eq, tLc_eq, iRng1, iRng2, iList, iTup, gTup, gTupH, gUnlH, gCons, gNil, gSub, rSetL, rIxL, rIxT, rIxLH, rIxTH, rSlTS, rCatS, rTupS, rIsiH, rLenS, V.ty.injEq, tyS_non, tyS_bl, tyS_int, tyS_str, tyS_ref, tyO_l, tyO_t, tyO_d, tyO_dt, kit_ll, kit_tt, kit_bb, kit_ii, kit_ib, kit_bi, kit_nt, kit_it, kit_st, kit_bt, kit_lt, kit_dt, kit_ni, kit_si, kit_ti, kit_li, kit_di, kit_nb, kit_ns, kit_is, kit_bs, kit_ss, kit_ts, kit_ls, kit_ds, kit_dd, lenS_ref, lenO_l, lenO_t,  rAppend, tM1, rIxS, tSl, tPart, tNoPart, tBM, tBM0, tDGetS, sDPutS, tTruS, truO_l, truO_t, truS_ref, truS_non, truS_bl, truS_int, tFld, sFld, sFldAug, rAdd, tMeth, tMake, tMakeK, List.take_succ_cons, List.take_zero, List.drop_succ_cons, List.drop_zero, List.take_nil, tIsN, tNotN, tAndV, tOrV, tNotV, putF, List.lookup, List.any_cons, List.any_nil, Sum.inr.injEq, HO.ins.injEq, HO.dK.injEq, eq_self, beq_self_eq_true, beq_iff_eq, decide_true, decide_false, Bool.or_true, Bool.true_or, Bool.or_false, Bool.false_or, tYes, rEq, rNe, _root_.L2.start, wipe, List.map_cons, List.map_nil, List.length_cons, List.length_nil, List.append_nil, Nat.reduceAdd, Nat.reduceSub, List.replicate_succ, List.replicate_zero, List.cons_append, List.nil_append, List.getElem?_cons_zero, List.getElem?_cons_succ, List.set_cons_zero, List.set_cons_succ, Option.some.injEq, V.int.injEq, V.ref.injEq, V.bl.injEq, V.str.injEq, List.cons.injEq, HO.lst.injEq, HO.tup.injEq, and_assoc, and_true, true_and, exists_eq_left, exists_eq_left', exists_and_left, exists_eq, reduceCtorEq, false_and, and_false, or_false, false_or, exists_false, decide_eq_true_eq, CPow, CDivW, Int.reducePow, Int.reduceLT, Int.reduceLE, Int.reduceNeg, Int.reduceToNat, Int.reduceAbs, Nat.reducePow, Nat.reduceLT, Nat.reduceLeDiff, sizeLine_eq, Int.reduceMul, Int.reduceAdd, Int.reduceSub, Bool.not_eq_true', decide_eq_false_iff_not, scal, Bool.not_true, Bool.not_false, Bool.true_eq_false, Bool.false_eq_true, ite_false, ite_true, if_true, if_false, ite_self, forall_const, atI0, atI1, atI2, atI3, ixN20, ixN21, upd_same, upd_upd, Int.zero_add, CMul, Int.reduceSub, Nat.le_refl, Nat.zero_le, or_true, true_or, exists_const, Int.sub_zero, upd_ne nDp, h1, List.isEmpty_nil])
            rw [e] at kk
            intro q hq
            obtain ⟨nqp, hq'⟩ := upd_none hq
            exact kk D q [] _ ⟨dx, .non, [], get_new hq upd_same, im_non, get_new hq (get_ne nDp h1), im_nil⟩ hD' (bt.non _ hq') (ne_of_none h1 hq').symm upd_same im_nil (Bt.new (Bt.putP bt) hq)
          | cons w0 ws0 =>
            have e : freeS S t a = (⟨S.value, S.turn + 1, some (minW w0 ws0), (w0 :: ws0).filter fun x => decide (x ≠ minW w0 ws0)⟩, [minW w0 ws0]) := by unfold freeS; rw [hS]; simp only []; rw [if_neg hP, hL]
            rw [e] at kk
            rw [hL] at h2'
            have hne : acc.isEmpty = false := by
              cases acc with
              | nil => rw [hL] at hal; simp at hal
              | cons _ _ => rfl
            (try simp only [ne_0_1, ne_0_1b, ne_0_5, ne_0_5b, ne_0_6, ne_0_6b, ne_0_7, ne_0_7b, ne_1_0, ne_1_0b, ne_1_2, ne_1_2b, ne_1_3, ne_1_3b, ne_1_4, ne_1_4b, ne_1_5, ne_1_5b, ne_1_6, ne_1_6b, ne_1_7, ne_1_7b, ne_1_8, ne_1_8b, ne_2_1, ne_2_1b, ne_2_5, ne_2_5b, ne_2_6, ne_2_6b, ne_2_7, ne_2_7b, ne_3_1, ne_3_1b, ne_3_5, ne_3_5b, ne_3_6, ne_3_6b, ne_3_7, ne_3_7b, ne_4_1, ne_4_1b, ne_4_5, ne_4_5b, ne_4_6, ne_4_6b, ne_4_7, ne_4_7b, ne_5_0, ne_5_0b, ne_5_1, ne_5_1b, ne_5_2, ne_5_2b, ne_5_3, ne_5_3b, ne_5_4, ne_5_4b, ne_5_6, ne_5_6b, ne_5_7, ne_5_7b, ne_5_8, ne_5_8b, ne_6_0, ne_6_0b, ne_6_1, ne_6_1b, ne_6_2, ne_6_2b, ne_6_3, ne_6_3b, ne_6_4, ne_6_4b, ne_6_5, ne_6_5b, ne_6_7, ne_6_7b, ne_6_8, ne_6_8b, ne_7_0, ne_7_0b, ne_7_1, ne_7_1b, ne_7_2, ne_7_2b, ne_7_3, ne_7_3b, ne_7_4, ne_7_4b, ne_7_5, ne_7_5b, ne_7_6, ne_7_6b, ne_7_8, ne_7_8b, ne_8_1, ne_8_1b, ne_8_5, ne_8_5b, ne_8_6, ne_8_6b, ne_8_7, ne_8_7b, cxOf, Cx.nox, Cx.wish, tSeq, tAsg, tC, gName, tIfS, tTest, tOp, tUn, rU, rI0, rI, tVar, tNext, tBreak, tRet, tRetN, tDrop, tLst, tTup, tCons, tNil, tCB, tB, tOr, tAnd, tNot, tIf, tCall, tFor_eq, tLc_eq, iRng1, iRng2, iList, iTup, gTup, gTupH, gUnlH, gCons, gNil, gSub, rSetL, rIxL, rIxT, rIxLH, rIxTH, rSlTS, rCatS, rTupS, rIsiH, rLenS, V.ty.injEq, tyS_non, tyS_bl, tyS_int, tyS_str, tyS_ref, tyO_l, tyO_t, tyO_d, tyO_dt, kit_ll, kit_tt, kit_bb, kit_ii, kit_ib, kit_bi, kit_nt, kit_it, kit_st, kit_bt, kit_lt, kit_dt, kit_ni, kit_si, kit_ti, kit_li, kit_di, kit_nb, kit_ns, kit_is, kit_bs, kit_ss, kit_ts, kit_ls, kit_ds, kit_dd, lenS_ref, lenO_l, lenO_t,  rAppend, tM1, rIxS, tSl, tPart, tNoPart, tBM, tBM0, tDGetS, sDPutS, tTruS, truO_l, truO_t, truS_ref, truS_non, truS_bl, truS_int, tFld, sFld, sFldAug, rAdd, tMeth, tMake, tMakeK, List.take_succ_cons, List.take_zero, List.drop_succ_cons, List.drop_zero, List.take_nil, tIsN, tNotN, tAndV, tOrV, tNotV, putF, List.lookup, List.any_cons, List.any_nil, Sum.inr.injEq, HO.ins.injEq, HO.dK.injEq, eq_self, beq_self_eq_true, beq_iff_eq, decide_true, decide_false, Bool.or_true, Bool.true_or, Bool.or_false, Bool.false_or, tYes, rEq, rNe, _root_.L2.start, wipe, List.map_cons, List.map_nil, List.length_cons, List.length_nil, List.append_nil, Nat.reduceAdd, Nat.reduceSub, List.replicate_succ, List.replicate_zero, List.cons_append, List.nil_append, List.getElem?_cons_zero, List.getElem?_cons_succ, List.set_cons_zero, List.set_cons_succ, Option.some.injEq, V.int.injEq, V.ref.injEq, V.bl.injEq, V.str.injEq, List.cons.injEq, HO.lst.injEq, HO.tup.injEq, and_assoc, and_true, true_and, exists_eq_left, exists_eq_left', exists_and_left, exists_eq, reduceCtorEq, false_and, and_false, or_false, false_or, exists_false, decide_eq_true_eq, CPow, CDivW, Int.reducePow, Int.reduceLT, Int.reduceLE, Int.reduceNeg, Int.reduceToNat, Int.reduceAbs, Nat.reducePow, Nat.reduceLT, Nat.reduceLeDiff, sizeLine_eq, Int.reduceMul, Int.reduceAdd, Int.reduceSub, Bool.not_eq_true', decide_eq_false_iff_not, scal, Bool.not_true, Bool.not_false, Bool.true_eq_false, Bool.false_eq_true, ite_false, ite_true, if_true, if_false, ite_self, forall_const, atI0, atI1, atI2, atI3, ixN20, ixN21, upd_same, upd_upd, Int.zero_add, CMul, Int.reduceSub, Nat.le_refl, Nat.zero_le, or_true, true_or, exists_const, Int.sub_zero, upd_ne nDp, h1, hne])
            generalize hHa : upd H2 p (HO.ins T.C_Lock dx [(Str.ofString "value", V.int S.value), (Str.ofString "turn", V.int S.turn), (Str.ofString "holder", V.non), (Str.ofString "_waiting", V.ref D)]) = Ha
            have ap : Ha p = some (HO.ins T.C_Lock dx (lockF S.value S.turn .non D)) := by rw [← hHa]; exact upd_same
            have aD : Ha D = some (.lst acc) := by rw [← hHa]; exact get_ne nDp h1
            have aI : ImAll Ha ((w0 :: ws0).map wD) acc := by rw [← hHa]; exact imsIns hp2 h2'
            have aB : Bt p l H Ha := by rw [← hHa]; exact Bt.putP bt
            clear hHa
            refine ⟨D, acc, wD w0, ws0.map wD, rfl, aD, aI, wDs_alikeAll (w0 :: ws0), wDs_depth (w0 :: ws0), fun v hv iv => ?_⟩
            rw [minW_map] at iv
            (try simp only [ne_0_1, ne_0_1b, ne_0_5, ne_0_5b, ne_0_6, ne_0_6b, ne_0_7, ne_0_7b, ne_1_0, ne_1_0b, ne_1_2, ne_1_2b, ne_1_3, ne_1_3b, ne_1_4, ne_1_4b, ne_1_5, ne_1_5b, ne_1_6, ne_1_6b, ne_1_7, ne_1_7b, ne_1_8, ne_1_8b, ne_2_1, ne_2_1b, ne_2_5, ne_2_5b, ne_2_6, ne_2_6b, ne_2_7, ne_2_7b, ne_3_1, ne_3_1b, ne_3_5, ne_3_5b, ne_3_6, ne_3_6b, ne_3_7, ne_3_7b, ne_4_1, ne_4_1b, ne_4_5, ne_4_5b, ne_4_6, ne_4_6b, ne_4_7, ne_4_7b, ne_5_0, ne_5_0b, ne_5_1, ne_5_1b, ne_5_2, ne_5_2b, ne_5_3, ne_5_3b, ne_5_4, ne_5_4b, ne_5_6, ne_5_6b, ne_5_7, ne_5_7b, ne_5_8, ne_5_8b, ne_6_0, ne_6_0b, ne_6_1, ne_6_1b, ne_6_2, ne_6_2b, ne_6_3, ne_6_3b, ne_6_4, ne_6_4b, ne_6_5, ne_6_5b, ne_6_7, ne_6_7b, ne_6_8, ne_6_8b, ne_7_0, ne_7_0b, ne_7_1, ne_7_1b, ne_7_2, ne_7_2b, ne_7_3, ne_7_3b, ne_7_4, ne_7_4b, ne_7_5, ne_7_5b, ne_7_6, ne_7_6b, ne_7_8, ne_7_8b, ne_8_1, ne_8_1b, ne_8_5, ne_8_5b, ne_8_6, ne_8_6b, ne_8_7, ne_8_7b, cxOf, Cx.nox, Cx.wish, tSeq, tAsg, tC, gName, tIfS, tTest, tOp, tUn, rU, rI0, rI, tVar, tNext, tBreak, tRet, tRetN, tDrop, tLst, tTup, tCons, tNil, tCB, tB, tOr, tAnd, tNot, tIf, tCall, tFor_eq, tLc_eq, iRng1, iRng2, iList, iTup, gTup, gTupH, gUnlH, gCons, gNil, gSub, rSetL, rIxL, rIxT, rIxLH, rIxTH, rSlTS, rCatS, rTupS, rIsiH, rLenS, V.ty.injEq, tyS_non, tyS_bl, tyS_int, tyS_str, tyS_ref, tyO_l, tyO_t, tyO_d, tyO_dt, kit_ll, kit_tt, kit_bb, kit_ii, kit_ib, kit_bi, kit_nt, kit_it, kit_st, kit_bt, kit_lt, kit_dt, kit_ni, kit_si, kit_ti, kit_li, kit_di, kit_nb, kit_ns, kit_is, kit_bs, kit_ss, kit_ts, kit_ls, kit_ds, kit_dd, lenS_ref, lenO_l, lenO_t,  rAppend, tM1, rIxS, tSl, tPart, tNoPart, tBM, tBM0, tDGetS, sDPutS, tTruS, truO_l, truO_t, truS_ref, truS_non, truS_bl, truS_int, tFld, sFld, sFldAug, rAdd, tMeth, tMake, tMakeK, List.take_succ_cons, List.take_zero, List.drop_succ_cons, List.drop_zero, List.take_nil, tIsN, tNotN, tAndV, tOrV, tNotV, putF, List.lookup, List.any_cons, List.any_nil, Sum.inr.injEq, HO.ins.injEq, HO.dK.injEq, eq_self, beq_self_eq_true, beq_iff_eq, decide_true, decide_false, Bool.or_true, Bool.true_or, Bool.or_false, Bool.false_or, tYes, rEq, rNe, _root_.L2.start, wipe, List.map_cons, List.map_nil, List.length_cons, List.length_nil, List.append_nil, Nat.reduceAdd, Nat.reduceSub, List.replicate_succ, List.replicate_zero, List.cons_append, List.nil_append, List.getElem?_cons_zero, List.getElem?_cons_succ, List.set_cons_zero, List.set_cons_succ, Option.some.injEq, V.int.injEq, V.ref.injEq, V.bl.injEq, V.str.injEq, List.cons.injEq, HO.lst.injEq, HO.tup.injEq, and_assoc, and_true, true_and, exists_eq_left, exists_eq_left', exists_and_left, exists_eq, reduceCtorEq, false_and, and_false, or_false, false_or, exists_false, decide_eq_true_eq, CPow, CDivW, Int.reducePow, Int.reduceLT, Int.reduceLE, Int.reduceNeg, Int.reduceToNat, Int.reduceAbs, Nat.reducePow, Nat.reduceLT, Nat.reduceLeDiff, sizeLine_eq, Int.reduceMul, Int.reduceAdd, Int.reduceSub, Bool.not_eq_true', decide_eq_false_iff_not, scal, Bool.not_true, Bool.not_false, Bool.true_eq_false, Bool.false_eq_true, ite_false, ite_true, if_true, if_false, ite_self, forall_const, atI0, atI1, atI2, atI3, ixN20, ixN21, upd_same, upd_upd, Int.zero_add, CMul, Int.reduceSub, Nat.le_refl, Nat.zero_le, or_true, true_or, exists_const, Int.sub_zero, ap, T.cl_Lock, T.n_Lock_waiting, T.n_Lock_holder, lockF])
            refine ⟨⟨_, SqL.of aD⟩, fun D2 hD2 => Lcl.list acc (fun j H' => ∃ acc2, H' D2 = some (.lst acc2) ∧ ImAll H' ((((w0 :: ws0).take j).filter fun x => decide (x ≠ minW w0 ws0)).map wD) acc2 ∧ Same Ha H') ⟨[], upd_same, im_nil, same_new hD2⟩ ?_ ?_ ?_⟩
            · rintro j H3 hj ⟨acc2, g1, g2, s3⟩
              exact SqL.of (s3 _ _ aD)
            · rintro j x H3 hj ⟨acc2, g1, g2, s3⟩
              obtain ⟨w, hw, iw2⟩ := ims_who (Same.ims s3 aI) hj
              have hal2 := g2.len
              rw [List.length_map] at hal2
              have hfl := List.length_filter_le (fun x : Who => decide (x ≠ minW w0 ws0)) ((w0 :: ws0).take j)
              rw [List.length_take] at hfl
              rw [hL] at hll
              (try simp only [ne_0_1, ne_0_1b, ne_0_5, ne_0_5b, ne_0_6, ne_0_6b, ne_0_7, ne_0_7b, ne_1_0, ne_1_0b, ne_1_2, ne_1_2b, ne_1_3, ne_1_3b, ne_1_4, ne_1_4b, ne_1_5, ne_1_5b, ne_1_6, ne_1_6b, ne_1_7, ne_1_7b, ne_1_8, ne_1_8b, ne_2_1, ne_2_1b, ne_2_5, ne_2_5b, ne_2_6, ne_2_6b, ne_2_7, ne_2_7b, ne_3_1, ne_3_1b, ne_3_5, ne_3_5b, ne_3_6, ne_3_6b, ne_3_7, ne_3_7b, ne_4_1, ne_4_1b, ne_4_5, ne_4_5b, ne_4_6, ne_4_6b, ne_4_7, ne_4_7b, ne_5_0, ne_5_0b, ne_5_1, ne_5_1b, ne_5_2, ne_5_2b, ne_5_3, ne_5_3b, ne_5_4, ne_5_4b, ne_5_6, ne_5_6b, ne_5_7, ne_5_7b, ne_5_8, ne_5_8b, ne_6_0, ne_6_0b, ne_6_1, ne_6_1b, ne_6_2, ne_6_2b, ne_6_3, ne_6_3b, ne_6_4, ne_6_4b, ne_6_5, ne_6_5b, ne_6_7, ne_6_7b, ne_6_8, ne_6_8b, ne_7_0, ne_7_0b, ne_7_1, ne_7_1b, ne_7_2, ne_7_2b, ne_7_3, ne_7_3b, ne_7_4, ne_7_4b, ne_7_5, ne_7_5b, ne_7_6, ne_7_6b, ne_7_8, ne_7_8b, ne_8_1, ne_8_1b, ne_8_5, ne_8_5b, ne_8_6, ne_8_6b, ne_8_7, ne_8_7b, cxOf, Cx.nox, Cx.wish, tSeq, tAsg, tC, gName, tIfS, tTest, tOp, tUn, rU, rI0, rI, tVar, tNext, tBreak, tRet, tRetN, tDrop, tLst, tTup, tCons, tNil, tCB, tB, tOr, tAnd, tNot, tIf, tCall, tFor_eq, tLc_eq, iRng1, iRng2, iList, iTup, gTup, gTupH, gUnlH, gCons, gNil, gSub, rSetL, rIxL, rIxT, rIxLH, rIxTH, rSlTS, rCatS, rTupS, rIsiH, rLenS, V.ty.injEq, tyS_non, tyS_bl, tyS_int, tyS_str, tyS_ref, tyO_l, tyO_t, tyO_d, tyO_dt, kit_ll, kit_tt, kit_bb, kit_ii, kit_ib, kit_bi, kit_nt, kit_it, kit_st, kit_bt, kit_lt, kit_dt, kit_ni, kit_si, kit_ti, kit_li, kit_di, kit_nb, kit_ns, kit_is, kit_bs, kit_ss, kit_ts, kit_ls, kit_ds, kit_dd, lenS_ref, lenO_l, lenO_t,  rAppend, tM1, rIxS, tSl, tPart, tNoPart, tBM, tBM0, tDGetS, sDPutS, tTruS, truO_l, truO_t, truS_ref, truS_non, truS_bl, truS_int, tFld, sFld, sFldAug, rAdd, tMeth, tMake, tMakeK, List.take_succ_cons, List.take_zero, List.drop_succ_cons, List.drop_zero, List.take_nil, tIsN, tNotN, tAndV, tOrV, tNotV, putF, List.lookup, List.any_cons, List.any_nil, Sum.inr.injEq, HO.ins.injEq, HO.dK.injEq, eq_self, beq_self_eq_true, beq_iff_eq, decide_true, decide_false, Bool.or_true, Bool.true_or, Bool.or_false, Bool.false_or, tYes, rEq, rNe, _root_.L2.start, wipe, List.map_cons, List.map_nil, List.length_cons, List.length_nil, List.append_nil, Nat.reduceAdd, Nat.reduceSub, List.replicate_succ, List.replicate_zero, List.cons_append, List.nil_append, List.getElem?_cons_zero, List.getElem?_cons_succ, List.set_cons_zero, List.set_cons_succ, Option.some.injEq, V.int.injEq, V.ref.injEq, V.bl.injEq, V.str.injEq, List.cons.injEq, HO.lst.injEq, HO.tup.injEq, and_assoc, and_true, true_and, exists_eq_left, exists_eq_left', exists_and_left, exists_eq, reduceCtorEq, false_and, and_false, or_false, false_or, exists_false, decide_eq_true_eq, CPow, CDivW, Int.reducePow, Int.reduceLT, Int.reduceLE, Int.reduceNeg, Int.reduceToNat, Int.reduceAbs, Nat.reducePow, Nat.reduceLT, Nat.reduceLeDiff, sizeLine_eq, Int.reduceMul, Int.reduceAdd, Int.reduceSub, Bool.not_eq_true', decide_eq_false_iff_not, scal, Bool.not_true, Bool.not_false, Bool.true_eq_false, Bool.false_eq_true, ite_false, ite_true, if_true, if_false, ite_self, forall_const, atI0, atI1, atI2, atI3, ixN20, ixN21, upd_same, upd_upd, Int.zero_add, CMul, Int.reduceSub, Nat.le_refl, Nat.zero_le, or_true, true_or, exists_const, Int.sub_zero, rNeD])
              refine ⟨_, Im.dp _ _ iw2, _, Im.dp _ _ (Same.im s3 iv), wD_shaped _, wD_shaped _, ?_⟩
              rw [wD_eqv, ← List.take_succ_cons, filter_take hw]
              by_cases hx : w = minW w0 ws0
              · simp only [hx, ne_eq, not_true, decide_true, decide_false, Bool.not_true, Bool.false_eq_true, if_false]
                try (try simp only [ne_0_1, ne_0_1b, ne_0_5, ne_0_5b, ne_0_6, ne_0_6b, ne_0_7, ne_0_7b, ne_1_0, ne_1_0b, ne_1_2, ne_1_2b, ne_1_3, ne_1_3b, ne_1_4, ne_1_4b, ne_1_5, ne_1_5b, ne_1_6, ne_1_6b, ne_1_7, ne_1_7b, ne_1_8, ne_1_8b, ne_2_1, ne_2_1b, ne_2_5, ne_2_5b, ne_2_6, ne_2_6b, ne_2_7, ne_2_7b, ne_3_1, ne_3_1b, ne_3_5, ne_3_5b, ne_3_6, ne_3_6b, ne_3_7, ne_3_7b, ne_4_1, ne_4_1b, ne_4_5, ne_4_5b, ne_4_6, ne_4_6b, ne_4_7, ne_4_7b, ne_5_0, ne_5_0b, ne_5_1, ne_5_1b, ne_5_2, ne_5_2b, ne_5_3, ne_5_3b, ne_5_4, ne_5_4b, ne_5_6, ne_5_6b, ne_5_7, ne_5_7b, ne_5_8, ne_5_8b, ne_6_0, ne_6_0b, ne_6_1, ne_6_1b, ne_6_2, ne_6_2b, ne_6_3, ne_6_3b, ne_6_4, ne_6_4b, ne_6_5, ne_6_5b, ne_6_7, ne_6_7b, ne_6_8, ne_6_8b, ne_7_0, ne_7_0b, ne_7_1, ne_7_1b, ne_7_2, ne_7_2b, ne_7_3, ne_7_3b, ne_7_4, ne_7_4b, ne_7_5, ne_7_5b, ne_7_6, ne_7_6b, ne_7_8, ne_7_8b, ne_8_1, ne_8_1b, ne_8_5, ne_8_5b, ne_8_6, ne_8_6b, ne_8_7, ne_8_7b, cxOf, Cx.nox, Cx.wish, tSeq, tAsg, tC, gName, tIfS, tTest, tOp, tUn, rU, rI0, rI, tVar, tNext, tBreak, tRet, tRetN, tDrop, tLst, tTup, tCons, tNil, tCB, tB, tOr, tAnd, tNot, tIf, tCall, tFor_eq, tLc_eq, iRng1, iRng2, iList, iTup, gTup, gTupH, gUnlH, gCons, gNil, gSub, rSetL, rIxL, rIxT, rIxLH, rIxTH, rSlTS, rCatS, rTupS, rIsiH, rLenS, V.ty.injEq, tyS_non, tyS_bl, tyS_int, tyS_str, tyS_ref, tyO_l, tyO_t, tyO_d, tyO_dt, kit_ll, kit_tt, kit_bb, kit_ii, kit_ib, kit_bi, kit_nt, kit_it, kit_st, kit_bt, kit_lt, kit_dt, kit_ni, kit_si, kit_ti, kit_li, kit_di, kit_nb, kit_ns, kit_is, kit_bs, kit_ss, kit_ts, kit_ls, kit_ds, kit_dd, lenS_ref, lenO_l, lenO_t,  rAppend, tM1, rIxS, tSl, tPart, tNoPart, tBM, tBM0, tDGetS, sDPutS, tTruS, truO_l, truO_t, truS_ref, truS_non, truS_bl, truS_int, tFld, sFld, sFldAug, rAdd, tMeth, tMake, tMakeK, List.take_succ_cons, List.take_zero, List.drop_succ_cons, List.drop_zero, List.take_nil, tIsN, tNotN, tAndV, tOrV, tNotV, putF, List.lookup, List.any_cons, List.any_nil, Sum.inr.injEq, HO.ins.injEq, HO.dK.injEq, eq_self, beq_self_eq_true, beq_iff_eq, decide_true, decide_false, Bool.or_true, Bool.true_or, Bool.or_false, Bool.false_or, tYes, rEq, rNe, _root_.L2.start, wipe, List.map_cons, List.map_nil, List.length_cons, List.length_nil, List.append_nil, Nat.reduceAdd, Nat.reduceSub, List.replicate_succ, List.replicate_zero, List.cons_append, List.nil_append, List.getElem?_cons_zero, List.getElem?_cons_succ, List.set_cons_zero, List.set_cons_succ, Option.some.injEq, V.int.injEq, V.ref.injEq, V.bl.injEq, V.str.injEq, List.cons.injEq, HO.lst.injEq, HO.tup.injEq, and_assoc, and_true, true_and, exists_eq_left, exists_eq_left', exists_and_left, exists_eq, reduceCtorEq, false_and, and_false, or_false, false_or, exists_false, decide_eq_true_eq, CPow, CDivW, Int.reducePow, Int.reduceLT, Int.reduceLE, Int.reduceNeg, Int.reduceToNat, Int.reduceAbs, Nat.reducePow, Nat.reduceLT, Nat.reduceLeDiff, sizeLine_eq, Int.reduceMul, Int.reduceAdd, Int.reduceSub, Bool.not_eq_true', decide_eq_false_iff_not, scal, Bool.not_true, Bool.not_false, Bool.true_eq_false, Bool.false_eq_true, ite_false, ite_true, if_true, if_false, ite_self, forall_const, atI0, atI1, atI2, atI3, ixN20, ixN21, upd_same, upd_upd, Int.zero_add, CMul, Int.reduceSub, Nat.le_refl, Nat.zero_le, or_true, true_or, exists_const, Int.sub_zero])
                exact ⟨acc2, g1, g2, s3⟩
              · simp only [hx, ne_eq, not_false_eq_true, decide_true, decide_false, Bool.not_false, if_true]
                try (try simp only [ne_0_1, ne_0_1b, ne_0_5, ne_0_5b, ne_0_6, ne_0_6b, ne_0_7, ne_0_7b, ne_1_0, ne_1_0b, ne_1_2, ne_1_2b, ne_1_3, ne_1_3b, ne_1_4, ne_1_4b, ne_1_5, ne_1_5b, ne_1_6, ne_1_6b, ne_1_7, ne_1_7b, ne_1_8, ne_1_8b, ne_2_1, ne_2_1b, ne_2_5, ne_2_5b, ne_2_6, ne_2_6b, ne_2_7, ne_2_7b, ne_3_1, ne_3_1b, ne_3_5, ne_3_5b, ne_3_6, ne_3_6b, ne_3_7, ne_3_7b, ne_4_1, ne_4_1b, ne_4_5, ne_4_5b, ne_4_6, ne_4_6b, ne_4_7, ne_4_7b, ne_5_0, ne_5_0b, ne_5_1, ne_5_1b, ne_5_2, ne_5_2b, ne_5_3, ne_5_3b, ne_5_4, ne_5_4b, ne_5_6, ne_5_6b, ne_5_7, ne_5_7b, ne_5_8, ne_5_8b, ne_6_0, ne_6_0b, ne_6_1, ne_6_1b, ne_6_2, ne_6_2b, ne_6_3, ne_6_3b, ne_6_4, ne_6_4b, ne_6_5, ne_6_5b, ne_6_7, ne_6_7b, ne_6_8, ne_6_8b, ne_7_0, ne_7_0b, ne_7_1, ne_7_1b, ne_7_2, ne_7_2b, ne_7_3, ne_7_3b, ne_7_4, ne_7_4b, ne_7_5, ne_7_5b, ne_7_6, ne_7_6b, ne_7_8, ne_7_8b, ne_8_1, ne_8_1b, ne_8_5, ne_8_5b, ne_8_6, ne_8_6b, ne_8_7, ne_8_7b, cxOf, Cx.nox, Cx.wish, tSeq, tAsg, tC, gName, tIfS, tTest, tOp, tUn, rU, rI0, rI, tVar, tNext, tBreak, tRet, tRetN, tDrop, tLst, tTup, tCons, tNil, tCB, tB, tOr, tAnd, tNot, tIf, tCall, tFor_eq, tLc_eq, iRng1, iRng2, iList, iTup, gTup, gTupH, gUnlH, gCons, gNil, gSub, rSetL, rIxL, rIxT, rIxLH, rIxTH, rSlTS, rCatS, rTupS, rIsiH, rLenS, V.ty.injEq, tyS_non, tyS_bl, tyS_int, tyS_str, tyS_ref, tyO_l, tyO_t, tyO_d, tyO_dt, kit_ll, kit_tt, kit_bb, kit_ii, kit_ib, kit_bi, kit_nt, kit_it, kit_st, kit_bt, kit_lt, kit_dt, kit_ni, kit_si, kit_ti, kit_li, kit_di, kit_nb, kit_ns, kit_is, kit_bs, kit_ss, kit_ts, kit_ls, kit_ds, kit_dd, lenS_ref, lenO_l, lenO_t,  rAppend, tM1, rIxS, tSl, tPart, tNoPart, tBM, tBM0, tDGetS, sDPutS, tTruS, truO_l, truO_t, truS_ref, truS_non, truS_bl, truS_int, tFld, sFld, sFldAug, rAdd, tMeth, tMake, tMakeK, List.take_succ_cons, List.take_zero, List.drop_succ_cons, List.drop_zero, List.take_nil, tIsN, tNotN, tAndV, tOrV, tNotV, putF, List.lookup, List.any_cons, List.any_nil, Sum.inr.injEq, HO.ins.injEq, HO.dK.injEq, eq_self, beq_self_eq_true, beq_iff_eq, decide_true, decide_false, Bool.or_true, Bool.true_or, Bool.or_false, Bool.false_or, tYes, rEq, rNe, _root_.L2.start, wipe, List.map_cons, List.map_nil, List.length_cons, List.length_nil, List.append_nil, Nat.reduceAdd, Nat.reduceSub, List.replicate_succ, List.replicate_zero, List.cons_append, List.nil_append, List.getElem?_cons_zero, List.getElem?_cons_succ, List.set_cons_zero, List.set_cons_succ, Option.some.injEq, V.int.injEq, V.ref.injEq, V.bl.injEq, V.str.injEq, List.cons.injEq, HO.lst.injEq, HO.tup.injEq, and_assoc, and_true, true_and, exists_eq_left, exists_eq_left', exists_and_left, exists_eq, reduceCtorEq, false_and, and_false, or_false, false_or, exists_false, decide_eq_true_eq, CPow, CDivW, Int.reducePow, Int.reduceLT, Int.reduceLE, Int.reduceNeg, Int.reduceToNat, Int.reduceAbs, Nat.reducePow, Nat.reduceLT, Nat.reduceLeDiff, sizeLine_eq, Int.reduceMul, Int.reduceAdd, Int.reduceSub, Bool.not_eq_true', decide_eq_false_iff_not, scal, Bool.not_true, Bool.not_false, Bool.true_eq_false, Bool.false_eq_true, ite_false, ite_true, if_true, if_false, ite_self, forall_const, atI0, atI1, atI2, atI3, ixN20, ixN21, upd_same, upd_upd, Int.zero_add, CMul, Int.reduceSub, Nat.le_refl, Nat.zero_le, or_true, true_or, exists_const, Int.sub_zero])
                refine ⟨acc2, g1, by omega, ?_, fun b o e => get_ne (ne_of_none e hD2) (s3 b o e)⟩
                rw [List.map_append]
                exact ims_app g1 g2 iw2
            · rintro H3 ⟨acc2, g1, g2, s3⟩
              have hla : acc.length = (w0 :: ws0).length := by rw [hal, hL]
              rw [hla, List.take_length] at g2
              have bp := s3 _ _ ap
              have nD2p : D2 ≠ p := (ne_of_none ap hD2).symm
              (try simp only [ne_0_1, ne_0_1b, ne_0_5, ne_0_5b, ne_0_6, ne_0_6b, ne_0_7, ne_0_7b, ne_1_0, ne_1_0b, ne_1_2, ne_1_2b, ne_1_3, ne_1_3b, ne_1_4, ne_1_4b, ne_1_5, ne_1_5b, ne_1_6, ne_1_6b, ne_1_7, ne_1_7b, ne_1_8, ne_1_8b, ne_2_1, ne_2_1b, ne_2_5, ne_2_5b, ne_2_6, ne_2_6b, ne_2_7, ne_2_7b, ne_3_1, ne_3_1b, ne_3_5, ne_3_5b, ne_3_6, ne_3_6b, ne_3_7, ne_3_7b, ne_4_1, ne_4_1b, ne_4_5, ne_4_5b, ne_4_6, ne_4_6b, ne_4_7, ne_4_7b, ne_5_0, ne_5_0b, ne_5_1, ne_5_1b, ne_5_2, ne_5_2b, ne_5_3, ne_5_3b, ne_5_4, ne_5_4b, ne_5_6, ne_5_6b, ne_5_7, ne_5_7b, ne_5_8, ne_5_8b, ne_6_0, ne_6_0b, ne_6_1, ne_6_1b, ne_6_2, ne_6_2b, ne_6_3, ne_6_3b, ne_6_4, ne_6_4b, ne_6_5, ne_6_5b, ne_6_7, ne_6_7b, ne_6_8, ne_6_8b, ne_7_0, ne_7_0b, ne_7_1, ne_7_1b, ne_7_2, ne_7_2b, ne_7_3, ne_7_3b, ne_7_4, ne_7_4b, ne_7_5, ne_7_5b, ne_7_6, ne_7_6b, ne_7_8, ne_7_8b, ne_8_1, ne_8_1b, ne_8_5, ne_8_5b, ne_8_6, ne_8_6b, ne_8_7, ne_8_7b, cxOf, Cx.nox, Cx.wish, tSeq, tAsg, tC, gName, tIfS, tTest, tOp, tUn, rU, rI0, rI, tVar, tNext, tBreak, tRet, tRetN, tDrop, tLst, tTup, tCons, tNil, tCB, tB, tOr, tAnd, tNot, tIf, tCall, tFor_eq, tLc_eq, iRng1, iRng2, iList, iTup, gTup, gTupH, gUnlH, gCons, gNil, gSub, rSetL, rIxL, rIxT, rIxLH, rIxTH, rSlTS, rCatS, rTupS, rIsiH, rLenS, V.ty.injEq, tyS_non, tyS_bl, tyS_int, tyS_str, tyS_ref, tyO_l, tyO_t, tyO_d, tyO_dt, kit_ll, kit_tt, kit_bb, kit_ii, kit_ib, kit_bi, kit_nt, kit_it, kit_st, kit_bt, kit_lt, kit_dt, kit_ni, kit_si, kit_ti, kit_li, kit_di, kit_nb, kit_ns, kit_is, kit_bs, kit_ss, kit_ts, kit_ls, kit_ds, kit_dd, lenS_ref, lenO_l, lenO_t,  rAppend, tM1, rIxS, tSl, tPart, tNoPart, tBM, tBM0, tDGetS, sDPutS, tTruS, truO_l, truO_t, truS_ref, truS_non, truS_bl, truS_int, tFld, sFld, sFldAug, rAdd, tMeth, tMake, tMakeK, List.take_succ_cons, List.take_zero, List.drop_succ_cons, List.drop_zero, List.take_nil, tIsN, tNotN, tAndV, tOrV, tNotV, putF, List.lookup, List.any_cons, List.any_nil, Sum.inr.injEq, HO.ins.injEq, HO.dK.injEq, eq_self, beq_self_eq_true, beq_iff_eq, decide_true, decide_false, Bool.or_true, Bool.true_or, Bool.or_false, Bool.false_or, tYes, rEq, rNe, _root_.L2.start, wipe, List.map_cons, List.map_nil, List.length_cons, List.length_nil, List.append_nil, Nat.reduceAdd, Nat.reduceSub, List.replicate_succ, List.replicate_zero, List.cons_append, List.nil_append, List.getElem?_cons_zero, List.getElem?_cons_succ, List.set_cons_zero, List.set_cons_succ, Option.some.injEq, V.int.injEq, V.ref.injEq, V.bl.injEq, V.str.injEq, List.cons.injEq, HO.lst.injEq, HO.tup.injEq, and_assoc, and_true, true_and, exists_eq_left, exists_eq_left', exists_and_left, exists_eq, reduceCtorEq, false_and, and_false, or_false, false_or, exists_false, decide_eq_true_eq, CPow, CDivW, Int.reducePow, Int.reduceLT, Int.reduceLE, Int.reduceNeg, Int.reduceToNat, Int.reduceAbs, Nat.reducePow, Nat.reduceLT, Nat.reduceLeDiff, sizeLine_eq, Int.reduceMul, Int.reduceAdd, Int.reduceSub, Bool.not_eq_true', decide_eq_false_iff_not, scal, Bool.not_true, Bool.not_false, Bool.true_eq_false, Bool.false_eq_true, ite_false, ite_true, if_true, if_false, ite_self, forall_const, atI0, atI1, atI2, atI3, ixN20, ixN21, upd_same, upd_upd, Int.zero_add, CMul, Int.reduceSub, Nat.le_refl, Nat.zero_le, or_true, true_or, exists_const, Int.sub_zero, bp, T.cl_Lock, T.n_Lock_waiting, T.n_Lock_holder, lockF])
              refine ⟨p, D2, ⟨S.value, S.turn, none, (w0 :: ws0).filter fun x => decide (x ≠ minW w0 ws0)⟩, minW w0 ws0, v, rfl, ⟨dx, .non, acc2, upd_same, im_non, get_ne nD2p g1, imsIns bp g2⟩, imIns bp (Same.im s3 iv), fun H5 L5 k5 q hq => ?_⟩
              obtain ⟨dx5, hv5, ws5, p5, i5, l5, iw5⟩ := L5
              have b5 : Bt p l H H5 := (Bt.putP (aB.same s3)).trans k5.one
              have tk5 : Tk H3 H5 := (Tk.putI bp).trans (Bt.tk1 k5 upd_same)
              refine kk D2 q [v] _ ⟨dx5, hv5, ws5, get_new hq p5, imNew hq i5, get_new hq l5, imsNew hq iw5⟩ (aB.non _ hD2) (b5.non _ hq) (ne_of_none l5 hq).symm upd_same ?_ (b5.new hq)
              exact im_cons (imNew hq (Im.mono tk5 _ _ (Same.im s3 iv))) im_nil
def sp_law_who : Sp := fun vs H Q _ => ∃ (p : Addr), vs = [.ref p] ∧ St2 H p ∧ ∀ (v : V) (w : Who) (H' : Hp), Im H' (wD w) v → Gn p H H' → Q v H'
theorem ok_law_who (T : Txt K mg) : FnOk P w K mg base CX0 2 T.f_law_who T.d_law_who ["_law_stream_here"] (sp_law_who) := by
  refine Fun.ok T.F_law_who sc_law_who (fun vs H Q E h => ?_) (fun cdv A outer s H vs Q E hr h => ?_)
  · obtain ⟨p, rfl, hp, kk⟩ := h; rfl
  · obtain ⟨p, rfl, hp, kk⟩ := h
    have hu := hu_of hr
    refine ⟨_, (pss_cons (ps_set (i := 1) sc_law_who.nd rfl (Or.inl rfl) (pe_tup (pa_cons (pe_op op_add pe_int (pe_call (ok_law_next T) (hr.mono (by decide)) rfl T.g_law_next T.F_law_next.kp T.b_law_next .nil pass0 (pa_cons (pv 0) (pa_cons pe_int pa_nil)))) (pa_cons (pe_call (ok_law_next T) (hr.mono (by decide)) rfl T.g_law_next T.F_law_next.kp T.b_law_next .nil pass0 (pa_cons (pv 0) (pa_cons pe_int pa_nil))) pa_nil))))
      (C8.pss_cut (ps_if (pt_cmpR op_eq (pe_call (ok_law_next T) (hr.mono (by decide)) rfl T.g_law_next T.F_law_next.kp T.b_law_next .nil pass0 (pa_cons (pv 0) (pa_cons pe_int pa_nil))) pe_int (nomark _)) (pss_one (ps_set (i := 1) sc_law_who.nd rfl (Or.inl rfl) (pe_tup (pa_cons (pe_op op_add pe_int (pe_call (ok_law_next T) (hr.mono (by decide)) rfl T.g_law_next T.F_law_next.kp T.b_law_next .nil pass0 (pa_cons (pv 0) (pa_cons (pe_op op_pow pe_int pe_int) pa_nil)))) (pa_cons (pe_call (ok_law_next T) (hr.mono (by decide)) rfl T.g_law_next T.F_law_next.kp T.b_law_next .nil pass0 (pa_cons (pv 0) (pa_cons (pe_op op_pow pe_int pe_int) pa_nil))) pa_nil))))) pss_nil)
      (pss_one (ps_ret (pe_tup (pa_cons (pv 1) (pa_cons (pe_op op_add pe_int (pe_call (ok_law_next T) (hr.mono (by decide)) rfl T.g_law_next T.F_law_next.kp T.b_law_next .nil pass0 (pa_cons (pv 0) (pa_cons pe_int pa_nil)))) pa_nil))))))), ?_⟩
    (try simp only [ne_0_1, ne_0_1b, ne_0_5, ne_0_5b, ne_0_6, ne_0_6b, ne_0_7, ne_0_7b, ne_1_0, ne_1_0b, ne_1_2, ne_1_2b, ne_1_3, ne_1_3b, ne_1_4, ne_1_4b, ne_1_5, ne_1_5b, ne_1_6, ne_1_6b, ne_1_7, ne_1_7b, ne_1_8, ne_1_8b, ne_2_1, ne_2_1b, ne_2_5, ne_2_5b, ne_2_6, ne_2_6b, ne_2_7, ne_2_7b, ne_3_1, ne_3_1b, ne_3_5, ne_3_5b, ne_3_6, ne_3_6b, ne_3_7, ne_3_7b, ne_4_1, ne_4_1b, ne_4_5, ne_4_5b, ne_4_6, ne_4_6b, ne_4_7, ne_4_7b, ne_5_0, ne_5_0b, ne_5_1, ne_5_1b, ne_5_2, ne_5_2b, ne_5_3, ne_5_3b, ne_5_4, ne_5_4b, ne_5_6, ne_5_6b, ne_5_7, ne_5_7b, ne_5_8, ne_5_8b, ne_6_0, ne_6_0b, ne_6_1, ne_6_1b, ne_6_2, ne_6_2b, ne_6_3, ne_6_3b, ne_6_4, ne_6_4b, ne_6_5, ne_6_5b, ne_6_7, ne_6_7b, ne_6_8, ne_6_8b, ne_7_0, ne_7_0b, ne_7_1, ne_7_1b, ne_7_2, ne_7_2b, ne_7_3, ne_7_3b, ne_7_4, ne_7_4b, ne_7_5, ne_7_5b, ne_7_6, ne_7_6b, ne_7_8, ne_7_8b, ne_8_1, ne_8_1b, ne_8_5, ne_8_5b, ne_8_6, ne_8_6b, ne_8_7, ne_8_7b, cxOf, Cx.nox, Cx.wish, tSeq, tAsg, tC, gName, tIfS, tTest, tOp, tUn, rU, rI0, rI, tVar, tNext, tBreak, tRet, tRetN, tDrop, tLst, tTup, tCons, tNil, tCB, tB, tOr, tAnd, tNot, tIf, tCall, tFor_eq, tLc_eq, iRng1, iRng2, iList, iTup, gTup, gTupH, gUnlH, gCons, gNil, gSub, rSetL, rIxL, rIxT, rIxLH, rIxTH, rSlTS, rCatS, rTupS, rIsiH, rLenS, V.ty.injEq, tyS_non, tyS_bl, tyS_int, tyS_str, tyS_ref, tyO_l, tyO_t, tyO_d, tyO_dt, kit_ll, kit_tt, kit_bb, kit_ii, kit_ib, kit_bi, kit_nt, kit_it, kit_st, kit_bt, kit_lt, kit_dt, kit_ni, kit_si, kit_ti, kit_li, kit_di, kit_nb, kit_ns, kit_is, kit_bs, kit_ss, kit_ts, kit_ls, kit_ds, kit_dd, lenS_ref, lenO_l, lenO_t,  rAppend, tM1, rIxS, tSl, tPart, tNoPart, tBM, tBM0, tDGetS, sDPutS, tTruS, truO_l, truO_t, truS_ref, truS_non, truS_bl, truS_int, tFld, sFld, sFldAug, rAdd, tMeth, tMake, tMakeK, List.take_succ_cons, List.take_zero, List.drop_succ_cons, List.drop_zero, List.take_nil, tIsN, tNotN, tAndV, tOrV, tNotV, putF, List.lookup, List.any_cons, List.any_nil, Sum.inr.injEq, HO.ins.injEq, HO.dK.injEq, eq_self, beq_self_eq_true, beq_iff_eq, decide_true, decide_false, Bool.or_true, Bool.true_or, Bool.or_false, Bool.false_or, tYes, rEq, rNe, _root_.L2.start, wipe, List.map_cons, List.map_nil, List.length_cons, List.length_nil, List.append_nil, Nat.reduceAdd, Nat.reduceSub, List.replicate_succ, List.replicate_zero, List.cons_append, List.nil_append, List.getElem?_cons_zero, List.getElem?_cons_succ, List.set_cons_zero, List.set_cons_succ, Option.some.injEq, V.int.injEq, V.ref.injEq, V.bl.injEq, V.str.injEq, List.cons.injEq, HO.lst.injEq, HO.tup.injEq, and_assoc, and_true, true_and, exists_eq_left, exists_eq_left', exists_and_left, exists_eq, reduceCtorEq, false_and, and_false, or_false, false_or, exists_false, decide_eq_true_eq, CPow, CDivW, Int.reducePow, Int.reduceLT, Int.reduceLE, Int.reduceNeg, Int.reduceToNat, Int.reduceAbs, Nat.reducePow, Nat.reduceLT, Nat.reduceLeDiff, sizeLine_eq, Int.reduceMul, Int.reduceAdd, Int.reduceSub, Bool.not_eq_true', decide_eq_false_iff_not, scal, Bool.not_true, Bool.not_false, Bool.true_eq_false, Bool.false_eq_true, ite_false, ite_true, if_true, if_false, ite_self, forall_const, atI0, atI1, atI2, atI3, ixN20, ixN21, upd_same, upd_upd, Int.zero_add, CMul, Int.reduceSub, Nat.le_refl, Nat.zero_le, or_true, true_or, exists_const, Int.sub_zero, sp_law_next])
    refine ⟨hp, fun a H1 a0 a1 g1 => ⟨g1.st, fun b H2 b0 b1 g2 q hq => ?_⟩⟩
    refine cutI (fun σ H' => ∃ (t : Int × Int) (tv : V), σ = [some (.ref p), some tv] ∧ Im H' (tD t) tv ∧ Gn p H H') ?_ ?_
    · have g : Gn p H (upd H2 q (.tup [.int (1 + a), .int b])) := (g1.trans g2).new hq
      have i1 : Im (upd H2 q (.tup [.int (1 + a), .int b])) (tD (1 + a, b)) (.ref q) := by unfold tD; walk_at "im"
      (try simp only [ne_0_1, ne_0_1b, ne_0_5, ne_0_5b, ne_0_6, ne_0_6b, ne_0_7, ne_0_7b, ne_1_0, ne_1_0b, ne_1_2, ne_1_2b, ne_1_3, ne_1_3b, ne_1_4, ne_1_4b, ne_1_5, ne_1_5b, ne_1_6, ne_1_6b, ne_1_7, ne_1_7b, ne_1_8, ne_1_8b, ne_2_1, ne_2_1b, ne_2_5, ne_2_5b, ne_2_6, ne_2_6b, ne_2_7, ne_2_7b, ne_3_1, ne_3_1b, ne_3_5, ne_3_5b, ne_3_6, ne_3_6b, ne_3_7, ne_3_7b, ne_4_1, ne_4_1b, ne_4_5, ne_4_5b, ne_4_6, ne_4_6b, ne_4_7, ne_4_7b, ne_5_0, ne_5_0b, ne_5_1, ne_5_1b, ne_5_2, ne_5_2b, ne_5_3, ne_5_3b, ne_5_4, ne_5_4b, ne_5_6, ne_5_6b, ne_5_7, ne_5_7b, ne_5_8, ne_5_8b, ne_6_0, ne_6_0b, ne_6_1, ne_6_1b, ne_6_2, ne_6_2b, ne_6_3, ne_6_3b, ne_6_4, ne_6_4b, ne_6_5, ne_6_5b, ne_6_7, ne_6_7b, ne_6_8, ne_6_8b, ne_7_0, ne_7_0b, ne_7_1, ne_7_1b, ne_7_2, ne_7_2b, ne_7_3, ne_7_3b, ne_7_4, ne_7_4b, ne_7_5, ne_7_5b, ne_7_6, ne_7_6b, ne_7_8, ne_7_8b, ne_8_1, ne_8_1b, ne_8_5, ne_8_5b, ne_8_6, ne_8_6b, ne_8_7, ne_8_7b, cxOf, Cx.nox, Cx.wish, tSeq, tAsg, tC, gName, tIfS, tTest, tOp, tUn, rU, rI0, rI, tVar, tNext, tBreak, tRet, tRetN, tDrop, tLst, tTup, tCons, tNil, tCB, tB, tOr, tAnd, tNot, tIf, tCall, tFor_eq, tLc_eq, iRng1, iRng2, iList, iTup, gTup, gTupH, gUnlH, gCons, gNil, gSub, rSetL, rIxL, rIxT, rIxLH, rIxTH, rSlTS, rCatS, rTupS, rIsiH, rLenS, V.ty.injEq, tyS_non, tyS_bl, tyS_int, tyS_str, tyS_ref, tyO_l, tyO_t, tyO_d, tyO_dt, kit_ll, kit_tt, kit_bb, kit_ii, kit_ib, kit_bi, kit_nt, kit_it, kit_st, kit_bt, kit_lt, kit_dt, kit_ni, kit_si, kit_ti, kit_li, kit_di, kit_nb, kit_ns, kit_is, kit_bs, kit_ss, kit_ts, kit_ls, kit_ds, kit_dd, lenS_ref, lenO_l, lenO_t,  rAppend, tM1, rIxS, tSl, tPart, tNoPart, tBM, tBM0, tDGetS, sDPutS, tTruS, truO_l, truO_t, truS_ref, truS_non, truS_bl, truS_int, tFld, sFld, sFldAug, rAdd, tMeth, tMake, tMakeK, List.take_succ_cons, List.take_zero, List.drop_succ_cons, List.drop_zero, List.take_nil, tIsN, tNotN, tAndV, tOrV, tNotV, putF, List.lookup, List.any_cons, List.any_nil, Sum.inr.injEq, HO.ins.injEq, HO.dK.injEq, eq_self, beq_self_eq_true, beq_iff_eq, decide_true, decide_false, Bool.or_true, Bool.true_or, Bool.or_false, Bool.false_or, tYes, rEq, rNe, _root_.L2.start, wipe, List.map_cons, List.map_nil, List.length_cons, List.length_nil, List.append_nil, Nat.reduceAdd, Nat.reduceSub, List.replicate_succ, List.replicate_zero, List.cons_append, List.nil_append, List.getElem?_cons_zero, List.getElem?_cons_succ, List.set_cons_zero, List.set_cons_succ, Option.some.injEq, V.int.injEq, V.ref.injEq, V.bl.injEq, V.str.injEq, List.cons.injEq, HO.lst.injEq, HO.tup.injEq, and_assoc, and_true, true_and, exists_eq_left, exists_eq_left', exists_and_left, exists_eq, reduceCtorEq, false_and, and_false, or_false, false_or, exists_false, decide_eq_true_eq, CPow, CDivW, Int.reducePow, Int.reduceLT, Int.reduceLE, Int.reduceNeg, Int.reduceToNat, Int.reduceAbs, Nat.reducePow, Nat.reduceLT, Nat.reduceLeDiff, sizeLine_eq, Int.reduceMul, Int.reduceAdd, Int.reduceSub, Bool.not_eq_true', decide_eq_false_iff_not, scal, Bool.not_true, Bool.not_false, Bool.true_eq_false, Bool.false_eq_true, ite_false, ite_true, if_true, if_false, ite_self, forall_const, atI0, atI1, atI2, atI3, ixN20, ixN21, upd_same, upd_upd, Int.zero_add, CMul, Int.reduceSub, Nat.le_refl, Nat.zero_le, or_true, true_or, exists_const, Int.sub_zero, sp_law_next])
      refine ⟨g.st, fun c H3 c0 c1 g3 => ?_⟩
      split
      · refine ⟨g3.st, fun d H4 d0 d1 g4 => ⟨g4.st, fun e H5 e0 e1 g5 r hr2 => ?_⟩⟩
        exact ⟨(1 + d, e), by unfold tD; walk_at "im", (((g.trans g3).trans g4).trans g5).new hr2⟩
      · exact ⟨_, g3.im i1, g.trans g3⟩
    · rintro σ H3 ⟨t, tv, rfl, it, g⟩
      (try simp only [ne_0_1, ne_0_1b, ne_0_5, ne_0_5b, ne_0_6, ne_0_6b, ne_0_7, ne_0_7b, ne_1_0, ne_1_0b, ne_1_2, ne_1_2b, ne_1_3, ne_1_3b, ne_1_4, ne_1_4b, ne_1_5, ne_1_5b, ne_1_6, ne_1_6b, ne_1_7, ne_1_7b, ne_1_8, ne_1_8b, ne_2_1, ne_2_1b, ne_2_5, ne_2_5b, ne_2_6, ne_2_6b, ne_2_7, ne_2_7b, ne_3_1, ne_3_1b, ne_3_5, ne_3_5b, ne_3_6, ne_3_6b, ne_3_7, ne_3_7b, ne_4_1, ne_4_1b, ne_4_5, ne_4_5b, ne_4_6, ne_4_6b, ne_4_7, ne_4_7b, ne_5_0, ne_5_0b, ne_5_1, ne_5_1b, ne_5_2, ne_5_2b, ne_5_3, ne_5_3b, ne_5_4, ne_5_4b, ne_5_6, ne_5_6b, ne_5_7, ne_5_7b, ne_5_8, ne_5_8b, ne_6_0, ne_6_0b, ne_6_1, ne_6_1b, ne_6_2, ne_6_2b, ne_6_3, ne_6_3b, ne_6_4, ne_6_4b, ne_6_5, ne_6_5b, ne_6_7, ne_6_7b, ne_6_8, ne_6_8b, ne_7_0, ne_7_0b, ne_7_1, ne_7_1b, ne_7_2, ne_7_2b, ne_7_3, ne_7_3b, ne_7_4, ne_7_4b, ne_7_5, ne_7_5b, ne_7_6, ne_7_6b, ne_7_8, ne_7_8b, ne_8_1, ne_8_1b, ne_8_5, ne_8_5b, ne_8_6, ne_8_6b, ne_8_7, ne_8_7b, cxOf, Cx.nox, Cx.wish, tSeq, tAsg, tC, gName, tIfS, tTest, tOp, tUn, rU, rI0, rI, tVar, tNext, tBreak, tRet, tRetN, tDrop, tLst, tTup, tCons, tNil, tCB, tB, tOr, tAnd, tNot, tIf, tCall, tFor_eq, tLc_eq, iRng1, iRng2, iList, iTup, gTup, gTupH, gUnlH, gCons, gNil, gSub, rSetL, rIxL, rIxT, rIxLH, rIxTH, rSlTS, rCatS, rTupS, rIsiH, rLenS, V.ty.injEq, tyS_non, tyS_bl, tyS_int, tyS_str, tyS_ref, tyO_l, tyO_t, tyO_d, tyO_dt, kit_ll, kit_tt, kit_bb, kit_ii, kit_ib, kit_bi, kit_nt, kit_it, kit_st, kit_bt, kit_lt, kit_dt, kit_ni, kit_si, kit_ti, kit_li, kit_di, kit_nb, kit_ns, kit_is, kit_bs, kit_ss, kit_ts, kit_ls, kit_ds, kit_dd, lenS_ref, lenO_l, lenO_t,  rAppend, tM1, rIxS, tSl, tPart, tNoPart, tBM, tBM0, tDGetS, sDPutS, tTruS, truO_l, truO_t, truS_ref, truS_non, truS_bl, truS_int, tFld, sFld, sFldAug, rAdd, tMeth, tMake, tMakeK, List.take_succ_cons, List.take_zero, List.drop_succ_cons, List.drop_zero, List.take_nil, tIsN, tNotN, tAndV, tOrV, tNotV, putF, List.lookup, List.any_cons, List.any_nil, Sum.inr.injEq, HO.ins.injEq, HO.dK.injEq, eq_self, beq_self_eq_true, beq_iff_eq, decide_true, decide_false, Bool.or_true, Bool.true_or, Bool.or_false, Bool.false_or, tYes, rEq, rNe, _root_.L2.start, wipe, List.map_cons, List.map_nil, List.length_cons, List.length_nil, List.append_nil, Nat.reduceAdd, Nat.reduceSub, List.replicate_succ, List.replicate_zero, List.cons_append, List.nil_append, List.getElem?_cons_zero, List.getElem?_cons_succ, List.set_cons_zero, List.set_cons_succ, Option.some.injEq, V.int.injEq, V.ref.injEq, V.bl.injEq, V.str.injEq, List.cons.injEq, HO.lst.injEq, HO.tup.injEq, and_assoc, and_true, true_and, exists_eq_left, exists_eq_left', exists_and_left, exists_eq, reduceCtorEq, false_and, and_false, or_false, false_or, exists_false, decide_eq_true_eq, CPow, CDivW, Int.reducePow, Int.reduceLT, Int.reduceLE, Int.reduceNeg, Int.reduceToNat, Int.reduceAbs, Nat.reducePow, Nat.reduceLT, Nat.reduceLeDiff, sizeLine_eq, Int.reduceMul, Int.reduceAdd, Int.reduceSub, Bool.not_eq_true', decide_eq_false_iff_not, scal, Bool.not_true, Bool.not_false, Bool.true_eq_false, Bool.false_eq_true, ite_false, ite_true, if_true, if_false, ite_self, forall_const, atI0, atI1, atI2, atI3, ixN20, ixN21, upd_same, upd_upd, Int.zero_add, CMul, Int.reduceSub, Nat.le_refl, Nat.zero_le, or_true, true_or, exists_const, Int.sub_zero, sp_law_next])
      refine ⟨g.st, fun c H4 c0 c1 g4 r hr2 => ?_⟩
      exact kk _ (t.1, t.2, 1 + c) _ (im_tupNew hr2 (im_cons (g4.im it) (im_cons im_int im_nil))) ((g.trans g4).new hr2)
def sp_law_ask : Sp := fun vs H Q _ => ∃ (d m : Addr) (S : LS) (w : Who) (wv : V), vs = [.ref d, wv] ∧ ModAt H d m S ∧ Im H (wD w) wv ∧ S.waiting.length ≤ 1000 ∧ S.waiting.Nodup ∧
  ∀ (m' q : Addr) (zs : List V) (H' : Hp), ModAt H' d m' (askS S w).1 → H m' = none → H q = none → q ≠ m' → H' q = some (.lst zs) → ImAll H' ((askS S w).2.map wD) zs → Bt d m H H' → Q (.ref q) H'
theorem ok_law_ask (T : Txt K mg) : FnOk P w K mg base CX0 2 T.f_law_ask T.d_law_ask ["_law_model_here", "_law_who_here"] (sp_law_ask) := by
  refine Fun.ok T.F_law_ask sc_law_ask (fun vs H Q E h => ?_) (fun cdv A outer s H vs Q E hr h => ?_)
  · obtain ⟨p, l, S, w', wv, rfl, ⟨hv, ws, hp, ih, hl, iw⟩, iwv, hlen, hnd, kk⟩ := h; rfl
  · obtain ⟨p, l, S, w', wv, rfl, ⟨hv, ws, hp, ih, hl, iw⟩, iwv, hlen, hnd, kk⟩ := h
    have hu := hu_of hr
    refine ⟨_, (pss_cons (ps_set (i := 2) sc_law_ask.nd rfl (Or.inl rfl) (pe_call (ok_law_free T) (hr.mono (by decide)) rfl T.g_law_free T.F_law_free.kp T.b_law_free .nil pass0 (pa_cons (pv 0) (pa_cons (pe_ix ix_tupH (pv 1) pe_int (fun _ _ => rfl)) (pa_cons (pe_op op_sub (pe_ix ix_tupH (pv 1) pe_int (fun _ _ => rfl)) pe_int) pa_nil)))))
      (pss_cons (ps_if (pt_cmp (pc_isN (pe_dgetS hu (pv 0) pe_str (fun _ _ => rfl)))) (pss_cons (ps_dputS hu (pv 0) pe_str (pv 1) rfl)
      (pss_cons (ps_dputS hu (pv 0) pe_str (pe_op op_add (pe_dgetS hu (pv 0) pe_str (fun _ _ => rfl)) pe_int) rfl)
      (pss_one (ps_ret (pe_lst (pa_cons (pv 1) pa_nil)))))) pss_nil)
      (C8.pss_cut (ps_if (PW.pt (pw_and (pt_cmpR (op_neDK (K := K) rfl hr.units) (pe_dgetS hu (pv 0) pe_str (fun _ _ => rfl)) (pv 1) (nomark _)) (pw_and1 (pt_cmpR (op_notInDK (K := K) rfl (hu65 hr)) (pv 1) (pe_dgetS hu (pv 0) pe_str (fun _ _ => rfl)) (by rfl))))) (pss_one (ps_expr (pe_bm PySem.F.plainAttrs_list PySem.F.slot_list_append PySem.F.type_list_append mt_append (pe_dgetS hu (pv 0) pe_str (fun _ _ => rfl)) (pa_cons (pv 1) pa_nil)))) pss_nil)
      (pss_one (ps_ret (pv 2)))))), ?_⟩
    obtain ⟨a, tv, rfl, ha, itv⟩ := wD_at iwv
    (try simp only [ne_0_1, ne_0_1b, ne_0_5, ne_0_5b, ne_0_6, ne_0_6b, ne_0_7, ne_0_7b, ne_1_0, ne_1_0b, ne_1_2, ne_1_2b, ne_1_3, ne_1_3b, ne_1_4, ne_1_4b, ne_1_5, ne_1_5b, ne_1_6, ne_1_6b, ne_1_7, ne_1_7b, ne_1_8, ne_1_8b, ne_2_1, ne_2_1b, ne_2_5, ne_2_5b, ne_2_6, ne_2_6b, ne_2_7, ne_2_7b, ne_3_1, ne_3_1b, ne_3_5, ne_3_5b, ne_3_6, ne_3_6b, ne_3_7, ne_3_7b, ne_4_1, ne_4_1b, ne_4_5, ne_4_5b, ne_4_6, ne_4_6b, ne_4_7, ne_4_7b, ne_5_0, ne_5_0b, ne_5_1, ne_5_1b, ne_5_2, ne_5_2b, ne_5_3, ne_5_3b, ne_5_4, ne_5_4b, ne_5_6, ne_5_6b, ne_5_7, ne_5_7b, ne_5_8, ne_5_8b, ne_6_0, ne_6_0b, ne_6_1, ne_6_1b, ne_6_2, ne_6_2b, ne_6_3, ne_6_3b, ne_6_4, ne_6_4b, ne_6_5, ne_6_5b, ne_6_7, ne_6_7b, ne_6_8, ne_6_8b, ne_7_0, ne_7_0b, ne_7_1, ne_7_1b, ne_7_2, ne_7_2b, ne_7_3, ne_7_3b, ne_7_4, ne_7_4b, ne_7_5, ne_7_5b, ne_7_6, ne_7_6b, ne_7_8, ne_7_8b, ne_8_1, ne_8_1b, ne_8_5, ne_8_5b, ne_8_6, ne_8_6b, ne_8_7, ne_8_7b, cxOf, Cx.nox, Cx.wish, tSeq, tAsg, tC, gName, tIfS, tTest, tOp, tUn, rU, rI0, rI, tVar, tNext, tBreak, tRet, tRetN, tDrop, tLst, tTup, tCons, tNil, tCB, tB, tOr, tAnd, tNot, tIf, tCall, tFor_eq, tLc_eq, iRng1, iRng2, iList, iTup, gTup, gTupH, gUnlH, gCons, gNil, gSub, rSetL, rIxL, rIxT, rIxLH, rIxTH, rSlTS, rCatS, rTupS, rIsiH, rLenS, V.ty.injEq, tyS_non, tyS_bl, tyS_int, tyS_str, tyS_ref, tyO_l, tyO_t, tyO_d, tyO_dt, kit_ll, kit_tt, kit_bb, kit_ii, kit_ib, kit_bi, kit_nt, kit_it, kit_st, kit_bt, kit_lt, kit_dt, kit_ni, kit_si, kit_ti, kit_li, kit_di, kit_nb, kit_ns, kit_is, kit_bs, kit_ss, kit_ts, kit_ls, kit_ds, kit_dd, lenS_ref, lenO_l, lenO_t,  rAppend, tM1, rIxS, tSl, tPart, tNoPart, tBM, tBM0, tDGetS, sDPutS, tTruS, truO_l, truO_t, truS_ref, truS_non, truS_bl, truS_int, tFld, sFld, sFldAug, rAdd, tMeth, tMake, tMakeK, List.take_succ_cons, List.take_zero, List.drop_succ_cons, List.drop_zero, List.take_nil, tIsN, tNotN, tAndV, tOrV, tNotV, putF, List.lookup, List.any_cons, List.any_nil, Sum.inr.injEq, HO.ins.injEq, HO.dK.injEq, eq_self, beq_self_eq_true, beq_iff_eq, decide_true, decide_false, Bool.or_true, Bool.true_or, Bool.or_false, Bool.false_or, tYes, rEq, rNe, _root_.L2.start, wipe, List.map_cons, List.map_nil, List.length_cons, List.length_nil, List.append_nil, Nat.reduceAdd, Nat.reduceSub, List.replicate_succ, List.replicate_zero, List.cons_append, List.nil_append, List.getElem?_cons_zero, List.getElem?_cons_succ, List.set_cons_zero, List.set_cons_succ, Option.some.injEq, V.int.injEq, V.ref.injEq, V.bl.injEq, V.str.injEq, List.cons.injEq, HO.lst.injEq, HO.tup.injEq, and_assoc, and_true, true_and, exists_eq_left, exists_eq_left', exists_and_left, exists_eq, reduceCtorEq, false_and, and_false, or_false, false_or, exists_false, decide_eq_true_eq, CPow, CDivW, Int.reducePow, Int.reduceLT, Int.reduceLE, Int.reduceNeg, Int.reduceToNat, Int.reduceAbs, Nat.reducePow, Nat.reduceLT, Nat.reduceLeDiff, sizeLine_eq, Int.reduceMul, Int.reduceAdd, Int.reduceSub, Bool.not_eq_true', decide_eq_false_iff_not, scal, Bool.not_true, Bool.not_false, Bool.true_eq_false, Bool.false_eq_true, ite_false, ite_true, if_true, if_false, ite_self, forall_const, atI0, atI1, atI2, atI3, ixN20, ixN21, upd_same, upd_upd, Int.zero_add, CMul, Int.reduceSub, Nat.le_refl, Nat.zero_le, or_true, true_or, exists_const, Int.sub_zero, ha, sp_law_free])
    refine ⟨l, S, ⟨hv, ws, hp, ih, hl, iw⟩, w'.tr, itv, hlen, hnd, fun l1 q zs H1 L1 hl1 hq nql hz iz bt => ?_⟩
    obtain ⟨hv1, ws1, p1, i1, l1', iw1⟩ := id L1
    have tk := BtD.tk bt hp hl
    have iw' : Im H1 (wD w') (.ref a) := Im.mono tk _ _ iwv
    have hv' := freeS_value S w'.tr (w'.2.2 - 1)
    have hfl := freeS_len S w'.tr (w'.2.2 - 1)
    have nl1p : l1 ≠ p := (ne_dl p1 l1').symm
    cases hS : (freeS S w'.tr (w'.2.2 - 1)).1.holder with
    | none =>
      rw [hS] at i1
      have := hD_none i1
      subst this
      have e : askS S w' = (⟨S.value, (freeS S w'.tr (w'.2.2 - 1)).1.turn + 1, some w', (freeS S w'.tr (w'.2.2 - 1)).1.waiting⟩, [w']) := by unfold askS; rw [hS]
      rw [e] at kk
      rw [hv'] at p1
      (try simp only [ne_0_1, ne_0_1b, ne_0_5, ne_0_5b, ne_0_6, ne_0_6b, ne_0_7, ne_0_7b, ne_1_0, ne_1_0b, ne_1_2, ne_1_2b, ne_1_3, ne_1_3b, ne_1_4, ne_1_4b, ne_1_5, ne_1_5b, ne_1_6, ne_1_6b, ne_1_7, ne_1_7b, ne_1_8, ne_1_8b, ne_2_1, ne_2_1b, ne_2_5, ne_2_5b, ne_2_6, ne_2_6b, ne_2_7, ne_2_7b, ne_3_1, ne_3_1b, ne_3_5, ne_3_5b, ne_3_6, ne_3_6b, ne_3_7, ne_3_7b, ne_4_1, ne_4_1b, ne_4_5, ne_4_5b, ne_4_6, ne_4_6b, ne_4_7, ne_4_7b, ne_5_0, ne_5_0b, ne_5_1, ne_5_1b, ne_5_2, ne_5_2b, ne_5_3, ne_5_3b, ne_5_4, ne_5_4b, ne_5_6, ne_5_6b, ne_5_7, ne_5_7b, ne_5_8, ne_5_8b, ne_6_0, ne_6_0b, ne_6_1, ne_6_1b, ne_6_2, ne_6_2b, ne_6_3, ne_6_3b, ne_6_4, ne_6_4b, ne_6_5, ne_6_5b, ne_6_7, ne_6_7b, ne_6_8, ne_6_8b, ne_7_0, ne_7_0b, ne_7_1, ne_7_1b, ne_7_2, ne_7_2b, ne_7_3, ne_7_3b, ne_7_4, ne_7_4b, ne_7_5, ne_7_5b, ne_7_6, ne_7_6b, ne_7_8, ne_7_8b, ne_8_1, ne_8_1b, ne_8_5, ne_8_5b, ne_8_6, ne_8_6b, ne_8_7, ne_8_7b, cxOf, Cx.nox, Cx.wish, tSeq, tAsg, tC, gName, tIfS, tTest, tOp, tUn, rU, rI0, rI, tVar, tNext, tBreak, tRet, tRetN, tDrop, tLst, tTup, tCons, tNil, tCB, tB, tOr, tAnd, tNot, tIf, tCall, tFor_eq, tLc_eq, iRng1, iRng2, iList, iTup, gTup, gTupH, gUnlH, gCons, gNil, gSub, rSetL, rIxL, rIxT, rIxLH, rIxTH, rSlTS, rCatS, rTupS, rIsiH, rLenS, V.ty.injEq, tyS_non, tyS_bl, tyS_int, tyS_str, tyS_ref, tyO_l, tyO_t, tyO_d, tyO_dt, kit_ll, kit_tt, kit_bb, kit_ii, kit_ib, kit_bi, kit_nt, kit_it, kit_st, kit_bt, kit_lt, kit_dt, kit_ni, kit_si, kit_ti, kit_li, kit_di, kit_nb, kit_ns, kit_is, kit_bs, kit_ss, kit_ts, kit_ls, kit_ds, kit_dd, lenS_ref, lenO_l, lenO_t,  rAppend, tM1, rIxS, tSl, tPart, tNoPart, tBM, tBM0, tDGetS, sDPutS, tTruS, truO_l, truO_t, truS_ref, truS_non, truS_bl, truS_int, tFld, sFld, sFldAug, rAdd, tMeth, tMake, tMakeK, List.take_succ_cons, List.take_zero, List.drop_succ_cons, List.drop_zero, List.take_nil, tIsN, tNotN, tAndV, tOrV, tNotV, putF, List.lookup, List.any_cons, List.any_nil, Sum.inr.injEq, HO.ins.injEq, HO.dK.injEq, eq_self, beq_self_eq_true, beq_iff_eq, decide_true, decide_false, Bool.or_true, Bool.true_or, Bool.or_false, Bool.false_or, tYes, rEq, rNe, _root_.L2.start, wipe, List.map_cons, List.map_nil, List.length_cons, List.length_nil, List.append_nil, Nat.reduceAdd, Nat.reduceSub, List.replicate_succ, List.replicate_zero, List.cons_append, List.nil_append, List.getElem?_cons_zero, List.getElem?_cons_succ, List.set_cons_zero, List.set_cons_succ, Option.some.injEq, V.int.injEq, V.ref.injEq, V.bl.injEq, V.str.injEq, List.cons.injEq, HO.lst.injEq, HO.tup.injEq, and_assoc, and_true, true_and, exists_eq_left, exists_eq_left', exists_and_left, exists_eq, reduceCtorEq, false_and, and_false, or_false, false_or, exists_false, decide_eq_true_eq, CPow, CDivW, Int.reducePow, Int.reduceLT, Int.reduceLE, Int.reduceNeg, Int.reduceToNat, Int.reduceAbs, Nat.reducePow, Nat.reduceLT, Nat.reduceLeDiff, sizeLine_eq, Int.reduceMul, Int.reduceAdd, Int.reduceSub, Bool.not_eq_true', decide_eq_false_iff_not, scal, Bool.not_true, Bool.not_false, Bool.true_eq_false, Bool.false_eq_true, ite_false, ite_true, if_true, if_false, ite_self, forall_const, atI0, atI1, atI2, atI3, ixN20, ixN21, upd_same, upd_upd, Int.zero_add, CMul, Int.reduceSub, Nat.le_refl, Nat.zero_le, or_true, true_or, exists_const, Int.sub_zero, p1, modF_waiting, modF_holder, modF_turn, modF_len, modF_put_waiting, modF_put_holder, modF_put_turn])
      intro r hr
      obtain ⟨nrp, hr'⟩ := upd_none hr
      exact kk l1 r [.ref a] _ ⟨.ref a, ws1, get_new hr upd_same, imNew hr (imDk p1 iw'), get_new hr (get_ne nl1p l1'), imsNew hr (imsDk p1 iw1)⟩ hl1 (bt.non _ hr') (ne_of_none l1' hr').symm upd_same (im_cons (imNew hr (imDk p1 iw')) im_nil) ((Bt.putP bt).new hr)
    | some h =>
      rw [hS] at i1
      obtain ⟨qh, th, rfl, hqh, ith⟩ := hD_ref i1
      (try simp only [ne_0_1, ne_0_1b, ne_0_5, ne_0_5b, ne_0_6, ne_0_6b, ne_0_7, ne_0_7b, ne_1_0, ne_1_0b, ne_1_2, ne_1_2b, ne_1_3, ne_1_3b, ne_1_4, ne_1_4b, ne_1_5, ne_1_5b, ne_1_6, ne_1_6b, ne_1_7, ne_1_7b, ne_1_8, ne_1_8b, ne_2_1, ne_2_1b, ne_2_5, ne_2_5b, ne_2_6, ne_2_6b, ne_2_7, ne_2_7b, ne_3_1, ne_3_1b, ne_3_5, ne_3_5b, ne_3_6, ne_3_6b, ne_3_7, ne_3_7b, ne_4_1, ne_4_1b, ne_4_5, ne_4_5b, ne_4_6, ne_4_6b, ne_4_7, ne_4_7b, ne_5_0, ne_5_0b, ne_5_1, ne_5_1b, ne_5_2, ne_5_2b, ne_5_3, ne_5_3b, ne_5_4, ne_5_4b, ne_5_6, ne_5_6b, ne_5_7, ne_5_7b, ne_5_8, ne_5_8b, ne_6_0, ne_6_0b, ne_6_1, ne_6_1b, ne_6_2, ne_6_2b, ne_6_3, ne_6_3b, ne_6_4, ne_6_4b, ne_6_5, ne_6_5b, ne_6_7, ne_6_7b, ne_6_8, ne_6_8b, ne_7_0, ne_7_0b, ne_7_1, ne_7_1b, ne_7_2, ne_7_2b, ne_7_3, ne_7_3b, ne_7_4, ne_7_4b, ne_7_5, ne_7_5b, ne_7_6, ne_7_6b, ne_7_8, ne_7_8b, ne_8_1, ne_8_1b, ne_8_5, ne_8_5b, ne_8_6, ne_8_6b, ne_8_7, ne_8_7b, cxOf, Cx.nox, Cx.wish, tSeq, tAsg, tC, gName, tIfS, tTest, tOp, tUn, rU, rI0, rI, tVar, tNext, tBreak, tRet, tRetN, tDrop, tLst, tTup, tCons, tNil, tCB, tB, tOr, tAnd, tNot, tIf, tCall, tFor_eq, tLc_eq, iRng1, iRng2, iList, iTup, gTup, gTupH, gUnlH, gCons, gNil, gSub, rSetL, rIxL, rIxT, rIxLH, rIxTH, rSlTS, rCatS, rTupS, rIsiH, rLenS, V.ty.injEq, tyS_non, tyS_bl, tyS_int, tyS_str, tyS_ref, tyO_l, tyO_t, tyO_d, tyO_dt, kit_ll, kit_tt, kit_bb, kit_ii, kit_ib, kit_bi, kit_nt, kit_it, kit_st, kit_bt, kit_lt, kit_dt, kit_ni, kit_si, kit_ti, kit_li, kit_di, kit_nb, kit_ns, kit_is, kit_bs, kit_ss, kit_ts, kit_ls, kit_ds, kit_dd, lenS_ref, lenO_l, lenO_t,  rAppend, tM1, rIxS, tSl, tPart, tNoPart, tBM, tBM0, tDGetS, sDPutS, tTruS, truO_l, truO_t, truS_ref, truS_non, truS_bl, truS_int, tFld, sFld, sFldAug, rAdd, tMeth, tMake, tMakeK, List.take_succ_cons, List.take_zero, List.drop_succ_cons, List.drop_zero, List.take_nil, tIsN, tNotN, tAndV, tOrV, tNotV, putF, List.lookup, List.any_cons, List.any_nil, Sum.inr.injEq, HO.ins.injEq, HO.dK.injEq, eq_self, beq_self_eq_true, beq_iff_eq, decide_true, decide_false, Bool.or_true, Bool.true_or, Bool.or_false, Bool.false_or, tYes, rEq, rNe, _root_.L2.start, wipe, List.map_cons, List.map_nil, List.length_cons, List.length_nil, List.append_nil, Nat.reduceAdd, Nat.reduceSub, List.replicate_succ, List.replicate_zero, List.cons_append, List.nil_append, List.getElem?_cons_zero, List.getElem?_cons_succ, List.set_cons_zero, List.set_cons_succ, Option.some.injEq, V.int.injEq, V.ref.injEq, V.bl.injEq, V.str.injEq, List.cons.injEq, HO.lst.injEq, HO.tup.injEq, and_assoc, and_true, true_and, exists_eq_left, exists_eq_left', exists_and_left, exists_eq, reduceCtorEq, false_and, and_false, or_false, false_or, exists_false, decide_eq_true_eq, CPow, CDivW, Int.reducePow, Int.reduceLT, Int.reduceLE, Int.reduceNeg, Int.reduceToNat, Int.reduceAbs, Nat.reducePow, Nat.reduceLT, Nat.reduceLeDiff, sizeLine_eq, Int.reduceMul, Int.reduceAdd, Int.reduceSub, Bool.not_eq_true', decide_eq_false_iff_not, scal, Bool.not_true, Bool.not_false, Bool.true_eq_false, Bool.false_eq_true, ite_false, ite_true, if_true, if_false, ite_self, forall_const, atI0, atI1, atI2, atI3, ixN20, ixN21, upd_same, upd_upd, Int.zero_add, CMul, Int.reduceSub, Nat.le_refl, Nat.zero_le, or_true, true_or, exists_const, Int.sub_zero, p1, modF_waiting, modF_holder, modF_turn, modF_len])
      refine cutI (fun σ H' => σ = [some (.ref p), some (.ref a), some (.ref q)] ∧ ModAt H' p l1 (askS S w').1 ∧ H' q = some (.lst zs) ∧ ImAll H' ((askS S w').2.map wD) zs ∧ Bt p l H H') ?_ ?_
      · (try simp only [ne_0_1, ne_0_1b, ne_0_5, ne_0_5b, ne_0_6, ne_0_6b, ne_0_7, ne_0_7b, ne_1_0, ne_1_0b, ne_1_2, ne_1_2b, ne_1_3, ne_1_3b, ne_1_4, ne_1_4b, ne_1_5, ne_1_5b, ne_1_6, ne_1_6b, ne_1_7, ne_1_7b, ne_1_8, ne_1_8b, ne_2_1, ne_2_1b, ne_2_5, ne_2_5b, ne_2_6, ne_2_6b, ne_2_7, ne_2_7b, ne_3_1, ne_3_1b, ne_3_5, ne_3_5b, ne_3_6, ne_3_6b, ne_3_7, ne_3_7b, ne_4_1, ne_4_1b, ne_4_5, ne_4_5b, ne_4_6, ne_4_6b, ne_4_7, ne_4_7b, ne_5_0, ne_5_0b, ne_5_1, ne_5_1b, ne_5_2, ne_5_2b, ne_5_3, ne_5_3b, ne_5_4, ne_5_4b, ne_5_6, ne_5_6b, ne_5_7, ne_5_7b, ne_5_8, ne_5_8b, ne_6_0, ne_6_0b, ne_6_1, ne_6_1b, ne_6_2, ne_6_2b, ne_6_3, ne_6_3b, ne_6_4, ne_6_4b, ne_6_5, ne_6_5b, ne_6_7, ne_6_7b, ne_6_8, ne_6_8b, ne_7_0, ne_7_0b, ne_7_1, ne_7_1b, ne_7_2, ne_7_2b, ne_7_3, ne_7_3b, ne_7_4, ne_7_4b, ne_7_5, ne_7_5b, ne_7_6, ne_7_6b, ne_7_8, ne_7_8b, ne_8_1, ne_8_1b, ne_8_5, ne_8_5b, ne_8_6, ne_8_6b, ne_8_7, ne_8_7b, cxOf, Cx.nox, Cx.wish, tSeq, tAsg, tC, gName, tIfS, tTest, tOp, tUn, rU, rI0, rI, tVar, tNext, tBreak, tRet, tRetN, tDrop, tLst, tTup, tCons, tNil, tCB, tB, tOr, tAnd, tNot, tIf, tCall, tFor_eq, tLc_eq, iRng1, iRng2, iList, iTup, gTup, gTupH, gUnlH, gCons, gNil, gSub, rSetL, rIxL, rIxT, rIxLH, rIxTH, rSlTS, rCatS, rTupS, rIsiH, rLenS, V.ty.injEq, tyS_non, tyS_bl, tyS_int, tyS_str, tyS_ref, tyO_l, tyO_t, tyO_d, tyO_dt, kit_ll, kit_tt, kit_bb, kit_ii, kit_ib, kit_bi, kit_nt, kit_it, kit_st, kit_bt, kit_lt, kit_dt, kit_ni, kit_si, kit_ti, kit_li, kit_di, kit_nb, kit_ns, kit_is, kit_bs, kit_ss, kit_ts, kit_ls, kit_ds, kit_dd, lenS_ref, lenO_l, lenO_t,  rAppend, tM1, rIxS, tSl, tPart, tNoPart, tBM, tBM0, tDGetS, sDPutS, tTruS, truO_l, truO_t, truS_ref, truS_non, truS_bl, truS_int, tFld, sFld, sFldAug, rAdd, tMeth, tMake, tMakeK, List.take_succ_cons, List.take_zero, List.drop_succ_cons, List.drop_zero, List.take_nil, tIsN, tNotN, tAndV, tOrV, tNotV, putF, List.lookup, List.any_cons, List.any_nil, Sum.inr.injEq, HO.ins.injEq, HO.dK.injEq, eq_self, beq_self_eq_true, beq_iff_eq, decide_true, decide_false, Bool.or_true, Bool.true_or, Bool.or_false, Bool.false_or, tYes, rEq, rNe, _root_.L2.start, wipe, List.map_cons, List.map_nil, List.length_cons, List.length_nil, List.append_nil, Nat.reduceAdd, Nat.reduceSub, List.replicate_succ, List.replicate_zero, List.cons_append, List.nil_append, List.getElem?_cons_zero, List.getElem?_cons_succ, List.set_cons_zero, List.set_cons_succ, Option.some.injEq, V.int.injEq, V.ref.injEq, V.bl.injEq, V.str.injEq, List.cons.injEq, HO.lst.injEq, HO.tup.injEq, and_assoc, and_true, true_and, exists_eq_left, exists_eq_left', exists_and_left, exists_eq, reduceCtorEq, false_and, and_false, or_false, false_or, exists_false, decide_eq_true_eq, CPow, CDivW, Int.reducePow, Int.reduceLT, Int.reduceLE, Int.reduceNeg, Int.reduceToNat, Int.reduceAbs, Nat.reducePow, Nat.reduceLT, Nat.reduceLeDiff, sizeLine_eq, Int.reduceMul, Int.reduceAdd, Int.reduceSub, Bool.not_eq_true', decide_eq_false_iff_not, scal, Bool.not_true, Bool.not_false, Bool.true_eq_false, Bool.false_eq_true, ite_false, ite_true, if_true, if_false, ite_self, forall_const, atI0, atI1, atI2, atI3, ixN20, ixN21, upd_same, upd_upd, Int.zero_add, CMul, Int.reduceSub, Nat.le_refl, Nat.zero_le, or_true, true_or, exists_const, Int.sub_zero, p1, modF_waiting, modF_holder, modF_turn, modF_len, rNeD, rNotInD])
        refine ⟨_, Im.dp _ _ i1, _, Im.dp _ _ iw', wD_shaped _, wD_shaped _, ?_⟩
        rw [show PyData.eqv (hD (some h)) (wD w') = decide (h = w') from wD_eqv _ _]
        have ea : (¬ (h ≠ w' ∧ w' ∉ (freeS S w'.tr (w'.2.2 - 1)).1.waiting)) → askS S w' = freeS S w'.tr (w'.2.2 - 1) := fun z => by unfold askS; rw [hS]; simp only []; rw [if_neg z]
        by_cases e1 : h = w'
        · have e := ea fun z => z.1 e1
          rw [e]
          simp only [decide_eq_true e1, Bool.true_eq_false, if_false]
          exact ⟨L1, hz, iz, bt⟩
        · simp only [decide_eq_false e1, if_true]
          have hsh : SeqAt.shaped (.list ((freeS S w'.tr (w'.2.2 - 1)).1.waiting.map wD)) = true := wDs_shaped _
          refine ⟨_, Im.dp _ _ iw', _, .lst (SqL.of l1') (ImAll.dp _ _ iw1), wD_shaped _, hsh, ?_⟩
          rw [wDs_any]
          have hl1n := iw1.len
          rw [List.length_map] at hl1n
          by_cases e2 : w' ∈ (freeS S w'.tr (w'.2.2 - 1)).1.waiting
          · have e := ea fun z => z.2 e2
            rw [e]
            simp only [decide_eq_true e2, Bool.true_eq_false, if_false]
            exact ⟨L1, hz, iz, bt⟩
          · have e : askS S w' = (⟨S.value, (freeS S w'.tr (w'.2.2 - 1)).1.turn, some h, (freeS S w'.tr (w'.2.2 - 1)).1.waiting ++ [w']⟩, (freeS S w'.tr (w'.2.2 - 1)).2) := by unfold askS; rw [hS]; simp only []; rw [if_pos ⟨e1, e2⟩]
            rw [e]
            simp only [decide_eq_false e2, if_true]
            refine ⟨tyL l1', ws1, l1', by omega, ⟨.ref qh, ws1 ++ [.ref a], ?_, imPut l1' i1, upd_same, ?_⟩, get_ne nql hz, imsPut l1' iz, bt.putN hl1⟩
            · rw [upd_ne nl1p.symm, p1, hv']
            · show ImAll _ (List.map wD (_ ++ [w'])) _
              rw [List.map_append]
              exact ims_app l1' iw1 iw'
      · rintro σ H2 ⟨rfl, M2, hz2, iz2, b2⟩
        (try simp only [ne_0_1, ne_0_1b, ne_0_5, ne_0_5b, ne_0_6, ne_0_6b, ne_0_7, ne_0_7b, ne_1_0, ne_1_0b, ne_1_2, ne_1_2b, ne_1_3, ne_1_3b, ne_1_4, ne_1_4b, ne_1_5, ne_1_5b, ne_1_6, ne_1_6b, ne_1_7, ne_1_7b, ne_1_8, ne_1_8b, ne_2_1, ne_2_1b, ne_2_5, ne_2_5b, ne_2_6, ne_2_6b, ne_2_7, ne_2_7b, ne_3_1, ne_3_1b, ne_3_5, ne_3_5b, ne_3_6, ne_3_6b, ne_3_7, ne_3_7b, ne_4_1, ne_4_1b, ne_4_5, ne_4_5b, ne_4_6, ne_4_6b, ne_4_7, ne_4_7b, ne_5_0, ne_5_0b, ne_5_1, ne_5_1b, ne_5_2, ne_5_2b, ne_5_3, ne_5_3b, ne_5_4, ne_5_4b, ne_5_6, ne_5_6b, ne_5_7, ne_5_7b, ne_5_8, ne_5_8b, ne_6_0, ne_6_0b, ne_6_1, ne_6_1b, ne_6_2, ne_6_2b, ne_6_3, ne_6_3b, ne_6_4, ne_6_4b, ne_6_5, ne_6_5b, ne_6_7, ne_6_7b, ne_6_8, ne_6_8b, ne_7_0, ne_7_0b, ne_7_1, ne_7_1b, ne_7_2, ne_7_2b, ne_7_3, ne_7_3b, ne_7_4, ne_7_4b, ne_7_5, ne_7_5b, ne_7_6, ne_7_6b, ne_7_8, ne_7_8b, ne_8_1, ne_8_1b, ne_8_5, ne_8_5b, ne_8_6, ne_8_6b, ne_8_7, ne_8_7b, cxOf, Cx.nox, Cx.wish, tSeq, tAsg, tC, gName, tIfS, tTest, tOp, tUn, rU, rI0, rI, tVar, tNext, tBreak, tRet, tRetN, tDrop, tLst, tTup, tCons, tNil, tCB, tB, tOr, tAnd, tNot, tIf, tCall, tFor_eq, tLc_eq, iRng1, iRng2, iList, iTup, gTup, gTupH, gUnlH, gCons, gNil, gSub, rSetL, rIxL, rIxT, rIxLH, rIxTH, rSlTS, rCatS, rTupS, rIsiH, rLenS, V.ty.injEq, tyS_non, tyS_bl, tyS_int, tyS_str, tyS_ref, tyO_l, tyO_t, tyO_d, tyO_dt, kit_ll, kit_tt, kit_bb, kit_ii, kit_ib, kit_bi, kit_nt, kit_it, kit_st, kit_bt, kit_lt, kit_dt, kit_ni, kit_si, kit_ti, kit_li, kit_di, kit_nb, kit_ns, kit_is, kit_bs, kit_ss, kit_ts, kit_ls, kit_ds, kit_dd, lenS_ref, lenO_l, lenO_t,  rAppend, tM1, rIxS, tSl, tPart, tNoPart, tBM, tBM0, tDGetS, sDPutS, tTruS, truO_l, truO_t, truS_ref, truS_non, truS_bl, truS_int, tFld, sFld, sFldAug, rAdd, tMeth, tMake, tMakeK, List.take_succ_cons, List.take_zero, List.drop_succ_cons, List.drop_zero, List.take_nil, tIsN, tNotN, tAndV, tOrV, tNotV, putF, List.lookup, List.any_cons, List.any_nil, Sum.inr.injEq, HO.ins.injEq, HO.dK.injEq, eq_self, beq_self_eq_true, beq_iff_eq, decide_true, decide_false, Bool.or_true, Bool.true_or, Bool.or_false, Bool.false_or, tYes, rEq, rNe, _root_.L2.start, wipe, List.map_cons, List.map_nil, List.length_cons, List.length_nil, List.append_nil, Nat.reduceAdd, Nat.reduceSub, List.replicate_succ, List.replicate_zero, List.cons_append, List.nil_append, List.getElem?_cons_zero, List.getElem?_cons_succ, List.set_cons_zero, List.set_cons_succ, Option.some.injEq, V.int.injEq, V.ref.injEq, V.bl.injEq, V.str.injEq, List.cons.injEq, HO.lst.injEq, HO.tup.injEq, and_assoc, and_true, true_and, exists_eq_left, exists_eq_left', exists_and_left, exists_eq, reduceCtorEq, false_and, and_false, or_false, false_or, exists_false, decide_eq_true_eq, CPow, CDivW, Int.reducePow, Int.reduceLT, Int.reduceLE, Int.reduceNeg, Int.reduceToNat, Int.reduceAbs, Nat.reducePow, Nat.reduceLT, Nat.reduceLeDiff, sizeLine_eq, Int.reduceMul, Int.reduceAdd, Int.reduceSub, Bool.not_eq_true', decide_eq_false_iff_not, scal, Bool.not_true, Bool.not_false, Bool.true_eq_false, Bool.false_eq_true, ite_false, ite_true, if_true, if_false, ite_self, forall_const, atI0, atI1, atI2, atI3, ixN20, ixN21, upd_same, upd_upd, Int.zero_add, CMul, Int.reduceSub, Nat.le_refl, Nat.zero_le, or_true, true_or, exists_const, Int.sub_zero])
        exact kk l1 q zs H2 M2 hl1 hq nql hz2 iz2 b2
def sp_law_finish : Sp := fun vs H Q _ => ∃ (d m : Addr) (S : LS) (w : Who) (x : Int) (wv : V), vs = [.ref d, wv, .int x] ∧ ModAt H d m S ∧ Im H (wD w) wv ∧ S.waiting.length ≤ 1000 ∧ S.waiting.Nodup ∧
  ∀ (m' q : Addr) (zs : List V) (H' : Hp), ModAt H' d m' (finS S w x).1 → (m' = m ∨ H m' = none) → H q = none → q ≠ m' → H' q = some (.lst zs) → ImAll H' ((finS S w x).2.map wD) zs → Bt d m H H' → Q (.ref q) H'
theorem ok_law_finish (T : Txt K mg) : FnOk P w K mg base CX0 2 T.f_law_finish T.d_law_finish ["_law_model_here", "_law_who_here", "_law_value"] (sp_law_finish) := by
  refine Fun.ok T.F_law_finish sc_law_finish (fun vs H Q E h => ?_) (fun cdv A outer s H vs Q E hr h => ?_)
  · obtain ⟨p, l, S, w', x, wv, rfl, ⟨hv, ws, hp, ih, hl, iw⟩, iwv, hlen, hnd, kk⟩ := h; rfl
  · obtain ⟨p, l, S, w', x, wv, rfl, ⟨hv, ws, hp, ih, hl, iw⟩, iwv, hlen, hnd, kk⟩ := h
    have hu := hu_of hr
    refine ⟨_, (pss_cons (ps_if (pt_cmpR (op_neDK (K := K) rfl hr.units) (pe_dgetS hu (pv 0) pe_str (fun _ _ => rfl)) (pv 1) (nomark _)) (pss_one (ps_ret (pe_lst pa_nil))) pss_nil)
      (pss_cons (ps_dputS hu (pv 0) pe_str (pv 2) rfl)
      (pss_one (ps_ret (pe_call (ok_law_free T) (hr.mono (by decide)) rfl T.g_law_free T.F_law_free.kp T.b_law_free .nil pass0 (pa_cons (pv 0) (pa_cons (pe_ix ix_tupH (pv 1) pe_int (fun _ _ => rfl)) (pa_cons (pe_ix ix_tupH (pv 1) pe_int (fun _ _ => rfl)) pa_nil)))))))), ?_⟩
    obtain ⟨a, tv, rfl, ha, itv⟩ := wD_at iwv
    have npa : a ≠ p := fun z => by subst z; rw [hp] at ha; cases ha
    have npl : l ≠ p := (ne_dl hp hl).symm
    (try simp only [ne_0_1, ne_0_1b, ne_0_5, ne_0_5b, ne_0_6, ne_0_6b, ne_0_7, ne_0_7b, ne_1_0, ne_1_0b, ne_1_2, ne_1_2b, ne_1_3, ne_1_3b, ne_1_4, ne_1_4b, ne_1_5, ne_1_5b, ne_1_6, ne_1_6b, ne_1_7, ne_1_7b, ne_1_8, ne_1_8b, ne_2_1, ne_2_1b, ne_2_5, ne_2_5b, ne_2_6, ne_2_6b, ne_2_7, ne_2_7b, ne_3_1, ne_3_1b, ne_3_5, ne_3_5b, ne_3_6, ne_3_6b, ne_3_7, ne_3_7b, ne_4_1, ne_4_1b, ne_4_5, ne_4_5b, ne_4_6, ne_4_6b, ne_4_7, ne_4_7b, ne_5_0, ne_5_0b, ne_5_1, ne_5_1b, ne_5_2, ne_5_2b, ne_5_3, ne_5_3b, ne_5_4, ne_5_4b, ne_5_6, ne_5_6b, ne_5_7, ne_5_7b, ne_5_8, ne_5_8b, ne_6_0, ne_6_0b, ne_6_1, ne_6_1b, ne_6_2, ne_6_2b, ne_6_3, ne_6_3b, ne_6_4, ne_6_4b, ne_6_5, ne_6_5b, ne_6_7, ne_6_7b, ne_6_8, ne_6_8b, ne_7_0, ne_7_0b, ne_7_1, ne_7_1b, ne_7_2, ne_7_2b, ne_7_3, ne_7_3b, ne_7_4, ne_7_4b, ne_7_5, ne_7_5b, ne_7_6, ne_7_6b, ne_7_8, ne_7_8b, ne_8_1, ne_8_1b, ne_8_5, ne_8_5b, ne_8_6, ne_8_6b, ne_8_7, ne_8_7b, cxOf, Cx.nox, Cx.wish, tSeq, tAsg, tC, gName, tIfS, tTest, tOp, tUn, rU, rI0, rI, tVar, tNext, tBreak, tRet, tRetN, tDrop, tLst, tTup, tCons, tNil, tCB, tB, tOr, tAnd, tNot, tIf, tCall, tFor_eq, tLc_eq, iRng1, iRng2, iList, iTup, gTup, gTupH, gUnlH, gCons, gNil, gSub, rSetL, rIxL, rIxT, rIxLH, rIxTH, rSlTS, rCatS, rTupS, rIsiH, rLenS, V.ty.injEq, tyS_non, tyS_bl, tyS_int, tyS_str, tyS_ref, tyO_l, tyO_t, tyO_d, tyO_dt, kit_ll, kit_tt, kit_bb, kit_ii, kit_ib, kit_bi, kit_nt, kit_it, kit_st, kit_bt, kit_lt, kit_dt, kit_ni, kit_si, kit_ti, kit_li, kit_di, kit_nb, kit_ns, kit_is, kit_bs, kit_ss, kit_ts, kit_ls, kit_ds, kit_dd, lenS_ref, lenO_l, lenO_t,  rAppend, tM1, rIxS, tSl, tPart, tNoPart, tBM, tBM0, tDGetS, sDPutS, tTruS, truO_l, truO_t, truS_ref, truS_non, truS_bl, truS_int, tFld, sFld, sFldAug, rAdd, tMeth, tMake, tMakeK, List.take_succ_cons, List.take_zero, List.drop_succ_cons, List.drop_zero, List.take_nil, tIsN, tNotN, tAndV, tOrV, tNotV, putF, List.lookup, List.any_cons, List.any_nil, Sum.inr.injEq, HO.ins.injEq, HO.dK.injEq, eq_self, beq_self_eq_true, beq_iff_eq, decide_true, decide_false, Bool.or_true, Bool.true_or, Bool.or_false, Bool.false_or, tYes, rEq, rNe, _root_.L2.start, wipe, List.map_cons, List.map_nil, List.length_cons, List.length_nil, List.append_nil, Nat.reduceAdd, Nat.reduceSub, List.replicate_succ, List.replicate_zero, List.cons_append, List.nil_append, List.getElem?_cons_zero, List.getElem?_cons_succ, List.set_cons_zero, List.set_cons_succ, Option.some.injEq, V.int.injEq, V.ref.injEq, V.bl.injEq, V.str.injEq, List.cons.injEq, HO.lst.injEq, HO.tup.injEq, and_assoc, and_true, true_and, exists_eq_left, exists_eq_left', exists_and_left, exists_eq, reduceCtorEq, false_and, and_false, or_false, false_or, exists_false, decide_eq_true_eq, CPow, CDivW, Int.reducePow, Int.reduceLT, Int.reduceLE, Int.reduceNeg, Int.reduceToNat, Int.reduceAbs, Nat.reducePow, Nat.reduceLT, Nat.reduceLeDiff, sizeLine_eq, Int.reduceMul, Int.reduceAdd, Int.reduceSub, Bool.not_eq_true', decide_eq_false_iff_not, scal, Bool.not_true, Bool.not_false, Bool.true_eq_false, Bool.false_eq_true, ite_false, ite_true, if_true, if_false, ite_self, forall_const, atI0, atI1, atI2, atI3, ixN20, ixN21, upd_same, upd_upd, Int.zero_add, CMul, Int.reduceSub, Nat.le_refl, Nat.zero_le, or_true, true_or, exists_const, Int.sub_zero, hp, modF_waiting, modF_holder, modF_turn, modF_len, rNeD])
    refine ⟨_, Im.dp _ _ ih, _, Im.dp _ _ iwv, hD_shaped _, wD_shaped _, ?_⟩
    rw [show PyData.eqv (hD S.holder) (wD w') = decide (S.holder = some w') from hD_eqv S.holder (some w')]
    by_cases e : S.holder = some w'
    · simp only [decide_eq_true e, Bool.true_eq_false, if_false]
      have ef : finS S w' x = freeS { S with value := x } w'.tr w'.2.2 := by unfold finS; rw [if_neg (fun z => z e)]
      rw [ef] at kk
      (try simp only [ne_0_1, ne_0_1b, ne_0_5, ne_0_5b, ne_0_6, ne_0_6b, ne_0_7, ne_0_7b, ne_1_0, ne_1_0b, ne_1_2, ne_1_2b, ne_1_3, ne_1_3b, ne_1_4, ne_1_4b, ne_1_5, ne_1_5b, ne_1_6, ne_1_6b, ne_1_7, ne_1_7b, ne_1_8, ne_1_8b, ne_2_1, ne_2_1b, ne_2_5, ne_2_5b, ne_2_6, ne_2_6b, ne_2_7, ne_2_7b, ne_3_1, ne_3_1b, ne_3_5, ne_3_5b, ne_3_6, ne_3_6b, ne_3_7, ne_3_7b, ne_4_1, ne_4_1b, ne_4_5, ne_4_5b, ne_4_6, ne_4_6b, ne_4_7, ne_4_7b, ne_5_0, ne_5_0b, ne_5_1, ne_5_1b, ne_5_2, ne_5_2b, ne_5_3, ne_5_3b, ne_5_4, ne_5_4b, ne_5_6, ne_5_6b, ne_5_7, ne_5_7b, ne_5_8, ne_5_8b, ne_6_0, ne_6_0b, ne_6_1, ne_6_1b, ne_6_2, ne_6_2b, ne_6_3, ne_6_3b, ne_6_4, ne_6_4b, ne_6_5, ne_6_5b, ne_6_7, ne_6_7b, ne_6_8, ne_6_8b, ne_7_0, ne_7_0b, ne_7_1, ne_7_1b, ne_7_2, ne_7_2b, ne_7_3, ne_7_3b, ne_7_4, ne_7_4b, ne_7_5, ne_7_5b, ne_7_6, ne_7_6b, ne_7_8, ne_7_8b, ne_8_1, ne_8_1b, ne_8_5, ne_8_5b, ne_8_6, ne_8_6b, ne_8_7, ne_8_7b, cxOf, Cx.nox, Cx.wish, tSeq, tAsg, tC, gName, tIfS, tTest, tOp, tUn, rU, rI0, rI, tVar, tNext, tBreak, tRet, tRetN, tDrop, tLst, tTup, tCons, tNil, tCB, tB, tOr, tAnd, tNot, tIf, tCall, tFor_eq, tLc_eq, iRng1, iRng2, iList, iTup, gTup, gTupH, gUnlH, gCons, gNil, gSub, rSetL, rIxL, rIxT, rIxLH, rIxTH, rSlTS, rCatS, rTupS, rIsiH, rLenS, V.ty.injEq, tyS_non, tyS_bl, tyS_int, tyS_str, tyS_ref, tyO_l, tyO_t, tyO_d, tyO_dt, kit_ll, kit_tt, kit_bb, kit_ii, kit_ib, kit_bi, kit_nt, kit_it, kit_st, kit_bt, kit_lt, kit_dt, kit_ni, kit_si, kit_ti, kit_li, kit_di, kit_nb, kit_ns, kit_is, kit_bs, kit_ss, kit_ts, kit_ls, kit_ds, kit_dd, lenS_ref, lenO_l, lenO_t,  rAppend, tM1, rIxS, tSl, tPart, tNoPart, tBM, tBM0, tDGetS, sDPutS, tTruS, truO_l, truO_t, truS_ref, truS_non, truS_bl, truS_int, tFld, sFld, sFldAug, rAdd, tMeth, tMake, tMakeK, List.take_succ_cons, List.take_zero, List.drop_succ_cons, List.drop_zero, List.take_nil, tIsN, tNotN, tAndV, tOrV, tNotV, putF, List.lookup, List.any_cons, List.any_nil, Sum.inr.injEq, HO.ins.injEq, HO.dK.injEq, eq_self, beq_self_eq_true, beq_iff_eq, decide_true, decide_false, Bool.or_true, Bool.true_or, Bool.or_false, Bool.false_or, tYes, rEq, rNe, _root_.L2.start, wipe, List.map_cons, List.map_nil, List.length_cons, List.length_nil, List.append_nil, Nat.reduceAdd, Nat.reduceSub, List.replicate_succ, List.replicate_zero, List.cons_append, List.nil_append, List.getElem?_cons_zero, List.getElem?_cons_succ, List.set_cons_zero, List.set_cons_succ, Option.some.injEq, V.int.injEq, V.ref.injEq, V.bl.injEq, V.str.injEq, List.cons.injEq, HO.lst.injEq, HO.tup.injEq, and_assoc, and_true, true_and, exists_eq_left, exists_eq_left', exists_and_left, exists_eq, reduceCtorEq, false_and, and_false, or_false, false_or, exists_false, decide_eq_true_eq, CPow, CDivW, Int.reducePow, Int.reduceLT, Int.reduceLE, Int.reduceNeg, Int.reduceToNat, Int.reduceAbs, Nat.reducePow, Nat.reduceLT, Nat.reduceLeDiff, sizeLine_eq, Int.reduceMul, Int.reduceAdd, Int.reduceSub, Bool.not_eq_true', decide_eq_false_iff_not, scal, Bool.not_true, Bool.not_false, Bool.true_eq_false, Bool.false_eq_true, ite_false, ite_true, if_true, if_false, ite_self, forall_const, atI0, atI1, atI2, atI3, ixN20, ixN21, upd_same, upd_upd, Int.zero_add, CMul, Int.reduceSub, Nat.le_refl, Nat.zero_le, or_true, true_or, exists_const, Int.sub_zero, hp, upd_ne npa, ha, modF_len, modF_put_value, sp_law_free])
      refine ⟨l, { S with value := x }, ⟨hv, ws, upd_same, imDk hp ih, get_ne npl hl, imsDk hp iw⟩, w'.tr, imDk hp itv, hlen, hnd, fun l1 q zs H1 L1 hl1 hq nql hz iz bt => ?_⟩
      exact kk l1 q zs H1 L1 (.inr (upd_none hl1).2) (upd_none hq).2 nql hz iz ((Bt.putP (Bt.refl _ _ _)).trans bt)
    · simp only [decide_eq_false e, if_true]
      have ef : finS S w' x = (S, []) := by unfold finS; rw [if_pos e]
      rw [ef] at kk
      intro q hq
      exact kk l q [] _ ⟨hv, ws, get_new hq hp, imNew hq ih, get_new hq hl, imsNew hq iw⟩ (.inl rfl) hq (ne_of_none hl hq).symm upd_same im_nil (Bt.of (same_new hq))
def sp_law_lock_is (C : Addr) : Sp := fun vs H Q _ => ∃ (p l d m : Addr) (S : LS), vs = [.ref p, .ref d] ∧ LockAt C H p l S ∧ ModAt H d m S ∧ S.waiting.length ≤ 1000 ∧ ∀ H', Same H H' → Q (.bl true) H'
theorem ok_law_lock_is (T : Txt K mg) : FnOk P w K mg base CX0 2 T.f_law_lock_is T.d_law_lock_is ["_law_lock", "_law_model_here"] (sp_law_lock_is T.C_Lock) := by
  refine Fun.ok T.F_law_lock_is sc_law_lock_is (fun vs H Q E h => ?_) (fun cdv A outer s H vs Q E hr h => ?_)
  · obtain ⟨p, l, d, m, S, rfl, L, M, hlen, kk⟩ := h; rfl
  · obtain ⟨p, l, d, m, S, rfl, L, M, hlen, kk⟩ := h
    have hu := hu_of hr
    refine ⟨_, (pss_cons (ps_set (i := 2) sc_law_lock_is.nd rfl (Or.inl rfl) (pe_meth0 (pv 0) T.cl_Lock T.m_Lock_waiting (ok_Lock_waiting T) (hr.mono (by decide)) T.b_Lock_waiting .nil pass0))
      (pss_cons (ps_if (PW.pt (pw_or (pt_not (pt_val (pe_callB call_isiH (by rfl) T.z_isinstance (by decide +kernel) (pa_cons (pv 2) (pa_cons (pe_bltn (v := .ty "list") (by rfl) T.z_list (by decide +kernel) rfl) pa_nil))))) (pw_or1 (pt_cmpR (op_neDK (K := K) rfl hr.units) (pv 2) (pe_callB (call_sortD (hu65 hr)) (by rfl) T.z_sorted (by decide +kernel) (pa_cons (pe_dgetS hu (pv 1) pe_str (fun _ _ => rfl)) pa_nil)) (nomark _))))) (pss_one (ps_ret pe_bl)) pss_nil)
      (pss_cons (ps_expr (pe_bm PySem.F.plainAttrs_list PySem.F.slot_list_append PySem.F.type_list_append mt_append (pv 2) (pa_cons pe_int pa_nil)))
      (pss_cons (ps_if (PW.pt (pw_or (pt_cmpR (op_neDK (K := K) rfl hr.units) (pe_meth0 (pv 0) T.cl_Lock T.m_Lock_waiting (ok_Lock_waiting T) (hr.mono (by decide)) T.b_Lock_waiting .nil pass0) (pe_callB (call_sortD (hu65 hr)) (by rfl) T.z_sorted (by decide +kernel) (pa_cons (pe_dgetS hu (pv 1) pe_str (fun _ _ => rfl)) pa_nil)) (nomark _)) (pw_or1 (pt_cmpR (op_neDK (K := K) rfl hr.units) (pe_fld (pv 0) rfl) (pe_dgetS hu (pv 1) pe_str (fun _ _ => rfl)) (nomark _))))) (pss_one (ps_ret pe_bl)) pss_nil)
      (pss_one (ps_ret (pe_and (pe_call (ok_law_is T) (hr.mono (by decide)) rfl T.g_law_is T.F_law_is.kp T.b_law_is .nil pass0 (pa_cons (pe_fld (pv 0) rfl) (pa_cons (pe_dgetS hu (pv 1) pe_str (fun _ _ => rfl)) pa_nil))) (pe_one (pe_call (ok_law_is T) (hr.mono (by decide)) rfl T.g_law_is T.F_law_is.kp T.b_law_is .nil pass0 (pa_cons (pe_fld (pv 0) rfl) (pa_cons (pe_dgetS hu (pv 1) pe_str (fun _ _ => rfl)) pa_nil))))))))))), ?_⟩
    obtain ⟨dx, hv, ws, hp, ih, hl, iw⟩ := id L
    obtain ⟨hv', ws', hd, ihd, hm, iwm⟩ := id M
    (try simp only [ne_0_1, ne_0_1b, ne_0_5, ne_0_5b, ne_0_6, ne_0_6b, ne_0_7, ne_0_7b, ne_1_0, ne_1_0b, ne_1_2, ne_1_2b, ne_1_3, ne_1_3b, ne_1_4, ne_1_4b, ne_1_5, ne_1_5b, ne_1_6, ne_1_6b, ne_1_7, ne_1_7b, ne_1_8, ne_1_8b, ne_2_1, ne_2_1b, ne_2_5, ne_2_5b, ne_2_6, ne_2_6b, ne_2_7, ne_2_7b, ne_3_1, ne_3_1b, ne_3_5, ne_3_5b, ne_3_6, ne_3_6b, ne_3_7, ne_3_7b, ne_4_1, ne_4_1b, ne_4_5, ne_4_5b, ne_4_6, ne_4_6b, ne_4_7, ne_4_7b, ne_5_0, ne_5_0b, ne_5_1, ne_5_1b, ne_5_2, ne_5_2b, ne_5_3, ne_5_3b, ne_5_4, ne_5_4b, ne_5_6, ne_5_6b, ne_5_7, ne_5_7b, ne_5_8, ne_5_8b, ne_6_0, ne_6_0b, ne_6_1, ne_6_1b, ne_6_2, ne_6_2b, ne_6_3, ne_6_3b, ne_6_4, ne_6_4b, ne_6_5, ne_6_5b, ne_6_7, ne_6_7b, ne_6_8, ne_6_8b, ne_7_0, ne_7_0b, ne_7_1, ne_7_1b, ne_7_2, ne_7_2b, ne_7_3, ne_7_3b, ne_7_4, ne_7_4b, ne_7_5, ne_7_5b, ne_7_6, ne_7_6b, ne_7_8, ne_7_8b, ne_8_1, ne_8_1b, ne_8_5, ne_8_5b, ne_8_6, ne_8_6b, ne_8_7, ne_8_7b, cxOf, Cx.nox, Cx.wish, tSeq, tAsg, tC, gName, tIfS, tTest, tOp, tUn, rU, rI0, rI, tVar, tNext, tBreak, tRet, tRetN, tDrop, tLst, tTup, tCons, tNil, tCB, tB, tOr, tAnd, tNot, tIf, tCall, tFor_eq, tLc_eq, iRng1, iRng2, iList, iTup, gTup, gTupH, gUnlH, gCons, gNil, gSub, rSetL, rIxL, rIxT, rIxLH, rIxTH, rSlTS, rCatS, rTupS, rIsiH, rLenS, V.ty.injEq, tyS_non, tyS_bl, tyS_int, tyS_str, tyS_ref, tyO_l, tyO_t, tyO_d, tyO_dt, kit_ll, kit_tt, kit_bb, kit_ii, kit_ib, kit_bi, kit_nt, kit_it, kit_st, kit_bt, kit_lt, kit_dt, kit_ni, kit_si, kit_ti, kit_li, kit_di, kit_nb, kit_ns, kit_is, kit_bs, kit_ss, kit_ts, kit_ls, kit_ds, kit_dd, lenS_ref, lenO_l, lenO_t,  rAppend, tM1, rIxS, tSl, tPart, tNoPart, tBM, tBM0, tDGetS, sDPutS, tTruS, truO_l, truO_t, truS_ref, truS_non, truS_bl, truS_int, tFld, sFld, sFldAug, rAdd, tMeth, tMake, tMakeK, List.take_succ_cons, List.take_zero, List.drop_succ_cons, List.drop_zero, List.take_nil, tIsN, tNotN, tAndV, tOrV, tNotV, putF, List.lookup, List.any_cons, List.any_nil, Sum.inr.injEq, HO.ins.injEq, HO.dK.injEq, eq_self, beq_self_eq_true, beq_iff_eq, decide_true, decide_false, Bool.or_true, Bool.true_or, Bool.or_false, Bool.false_or, tYes, rEq, rNe, _root_.L2.start, wipe, List.map_cons, List.map_nil, List.length_cons, List.length_nil, List.append_nil, Nat.reduceAdd, Nat.reduceSub, List.replicate_succ, List.replicate_zero, List.cons_append, List.nil_append, List.getElem?_cons_zero, List.getElem?_cons_succ, List.set_cons_zero, List.set_cons_succ, Option.some.injEq, V.int.injEq, V.ref.injEq, V.bl.injEq, V.str.injEq, List.cons.injEq, HO.lst.injEq, HO.tup.injEq, and_assoc, and_true, true_and, exists_eq_left, exists_eq_left', exists_and_left, exists_eq, reduceCtorEq, false_and, and_false, or_false, false_or, exists_false, decide_eq_true_eq, CPow, CDivW, Int.reducePow, Int.reduceLT, Int.reduceLE, Int.reduceNeg, Int.reduceToNat, Int.reduceAbs, Nat.reducePow, Nat.reduceLT, Nat.reduceLeDiff, sizeLine_eq, Int.reduceMul, Int.reduceAdd, Int.reduceSub, Bool.not_eq_true', decide_eq_false_iff_not, scal, Bool.not_true, Bool.not_false, Bool.true_eq_false, Bool.false_eq_true, ite_false, ite_true, if_true, if_false, ite_self, forall_const, atI0, atI1, atI2, atI3, ixN20, ixN21, upd_same, upd_upd, Int.zero_add, CMul, Int.reduceSub, Nat.le_refl, Nat.zero_le, or_true, true_or, exists_const, Int.sub_zero, hp, lockF, sp_Lock_waiting])
    refine ⟨l, S, L, fun q zs H1 hq s1 _ hz iz => ?_⟩
    (try simp only [ne_0_1, ne_0_1b, ne_0_5, ne_0_5b, ne_0_6, ne_0_6b, ne_0_7, ne_0_7b, ne_1_0, ne_1_0b, ne_1_2, ne_1_2b, ne_1_3, ne_1_3b, ne_1_4, ne_1_4b, ne_1_5, ne_1_5b, ne_1_6, ne_1_6b, ne_1_7, ne_1_7b, ne_1_8, ne_1_8b, ne_2_1, ne_2_1b, ne_2_5, ne_2_5b, ne_2_6, ne_2_6b, ne_2_7, ne_2_7b, ne_3_1, ne_3_1b, ne_3_5, ne_3_5b, ne_3_6, ne_3_6b, ne_3_7, ne_3_7b, ne_4_1, ne_4_1b, ne_4_5, ne_4_5b, ne_4_6, ne_4_6b, ne_4_7, ne_4_7b, ne_5_0, ne_5_0b, ne_5_1, ne_5_1b, ne_5_2, ne_5_2b, ne_5_3, ne_5_3b, ne_5_4, ne_5_4b, ne_5_6, ne_5_6b, ne_5_7, ne_5_7b, ne_5_8, ne_5_8b, ne_6_0, ne_6_0b, ne_6_1, ne_6_1b, ne_6_2, ne_6_2b, ne_6_3, ne_6_3b, ne_6_4, ne_6_4b, ne_6_5, ne_6_5b, ne_6_7, ne_6_7b, ne_6_8, ne_6_8b, ne_7_0, ne_7_0b, ne_7_1, ne_7_1b, ne_7_2, ne_7_2b, ne_7_3, ne_7_3b, ne_7_4, ne_7_4b, ne_7_5, ne_7_5b, ne_7_6, ne_7_6b, ne_7_8, ne_7_8b, ne_8_1, ne_8_1b, ne_8_5, ne_8_5b, ne_8_6, ne_8_6b, ne_8_7, ne_8_7b, cxOf, Cx.nox, Cx.wish, tSeq, tAsg, tC, gName, tIfS, tTest, tOp, tUn, rU, rI0, rI, tVar, tNext, tBreak, tRet, tRetN, tDrop, tLst, tTup, tCons, tNil, tCB, tB, tOr, tAnd, tNot, tIf, tCall, tFor_eq, tLc_eq, iRng1, iRng2, iList, iTup, gTup, gTupH, gUnlH, gCons, gNil, gSub, rSetL, rIxL, rIxT, rIxLH, rIxTH, rSlTS, rCatS, rTupS, rIsiH, rLenS, V.ty.injEq, tyS_non, tyS_bl, tyS_int, tyS_str, tyS_ref, tyO_l, tyO_t, tyO_d, tyO_dt, kit_ll, kit_tt, kit_bb, kit_ii, kit_ib, kit_bi, kit_nt, kit_it, kit_st, kit_bt, kit_lt, kit_dt, kit_ni, kit_si, kit_ti, kit_li, kit_di, kit_nb, kit_ns, kit_is, kit_bs, kit_ss, kit_ts, kit_ls, kit_ds, kit_dd, lenS_ref, lenO_l, lenO_t,  rAppend, tM1, rIxS, tSl, tPart, tNoPart, tBM, tBM0, tDGetS, sDPutS, tTruS, truO_l, truO_t, truS_ref, truS_non, truS_bl, truS_int, tFld, sFld, sFldAug, rAdd, tMeth, tMake, tMakeK, List.take_succ_cons, List.take_zero, List.drop_succ_cons, List.drop_zero, List.take_nil, tIsN, tNotN, tAndV, tOrV, tNotV, putF, List.lookup, List.any_cons, List.any_nil, Sum.inr.injEq, HO.ins.injEq, HO.dK.injEq, eq_self, beq_self_eq_true, beq_iff_eq, decide_true, decide_false, Bool.or_true, Bool.true_or, Bool.or_false, Bool.false_or, tYes, rEq, rNe, _root_.L2.start, wipe, List.map_cons, List.map_nil, List.length_cons, List.length_nil, List.append_nil, Nat.reduceAdd, Nat.reduceSub, List.replicate_succ, List.replicate_zero, List.cons_append, List.nil_append, List.getElem?_cons_zero, List.getElem?_cons_succ, List.set_cons_zero, List.set_cons_succ, Option.some.injEq, V.int.injEq, V.ref.injEq, V.bl.injEq, V.str.injEq, List.cons.injEq, HO.lst.injEq, HO.tup.injEq, and_assoc, and_true, true_and, exists_eq_left, exists_eq_left', exists_and_left, exists_eq, reduceCtorEq, false_and, and_false, or_false, false_or, exists_false, decide_eq_true_eq, CPow, CDivW, Int.reducePow, Int.reduceLT, Int.reduceLE, Int.reduceNeg, Int.reduceToNat, Int.reduceAbs, Nat.reducePow, Nat.reduceLT, Nat.reduceLeDiff, sizeLine_eq, Int.reduceMul, Int.reduceAdd, Int.reduceSub, Bool.not_eq_true', decide_eq_false_iff_not, scal, Bool.not_true, Bool.not_false, Bool.true_eq_false, Bool.false_eq_true, ite_false, ite_true, if_true, if_false, ite_self, forall_const, atI0, atI1, atI2, atI3, ixN20, ixN21, upd_same, upd_upd, Int.zero_add, CMul, Int.reduceSub, Nat.le_refl, Nat.zero_le, or_true, true_or, exists_const, Int.sub_zero, hz, s1 _ _ hd, modF_waiting, rSortD, s1 _ _ hm])
    refine ⟨_, Same.ims s1 iwm, wDs_alike _, wDs_sortable _, wDs_depth _, fun q2 zs2 H2 hq2 s2 _ hz2 iz2 => ?_⟩
    rw [sortW_map] at iz2
    have hz' := s2 _ _ hz
    have hzl := iz.len
    rw [List.length_map, sortW_len] at hzl
    have nq2 : q2 ≠ q := (ne_of_none hz hq2).symm
    refine ⟨_, _, .lst (SqL.of hz') (ImAll.dp _ _ (Same.ims s2 iz)), .lst (SqL.of hz2) (ImAll.dp _ _ iz2), wDs_shaped _, wDs_shaped _, ?_⟩
    rw [SeqAt.eqv_refl _ (SeqAt.canLay_of_shaped (wDs_shaped (sortW S.waiting)))]
    (try simp only [ne_0_1, ne_0_1b, ne_0_5, ne_0_5b, ne_0_6, ne_0_6b, ne_0_7, ne_0_7b, ne_1_0, ne_1_0b, ne_1_2, ne_1_2b, ne_1_3, ne_1_3b, ne_1_4, ne_1_4b, ne_1_5, ne_1_5b, ne_1_6, ne_1_6b, ne_1_7, ne_1_7b, ne_1_8, ne_1_8b, ne_2_1, ne_2_1b, ne_2_5, ne_2_5b, ne_2_6, ne_2_6b, ne_2_7, ne_2_7b, ne_3_1, ne_3_1b, ne_3_5, ne_3_5b, ne_3_6, ne_3_6b, ne_3_7, ne_3_7b, ne_4_1, ne_4_1b, ne_4_5, ne_4_5b, ne_4_6, ne_4_6b, ne_4_7, ne_4_7b, ne_5_0, ne_5_0b, ne_5_1, ne_5_1b, ne_5_2, ne_5_2b, ne_5_3, ne_5_3b, ne_5_4, ne_5_4b, ne_5_6, ne_5_6b, ne_5_7, ne_5_7b, ne_5_8, ne_5_8b, ne_6_0, ne_6_0b, ne_6_1, ne_6_1b, ne_6_2, ne_6_2b, ne_6_3, ne_6_3b, ne_6_4, ne_6_4b, ne_6_5, ne_6_5b, ne_6_7, ne_6_7b, ne_6_8, ne_6_8b, ne_7_0, ne_7_0b, ne_7_1, ne_7_1b, ne_7_2, ne_7_2b, ne_7_3, ne_7_3b, ne_7_4, ne_7_4b, ne_7_5, ne_7_5b, ne_7_6, ne_7_6b, ne_7_8, ne_7_8b, ne_8_1, ne_8_1b, ne_8_5, ne_8_5b, ne_8_6, ne_8_6b, ne_8_7, ne_8_7b, cxOf, Cx.nox, Cx.wish, tSeq, tAsg, tC, gName, tIfS, tTest, tOp, tUn, rU, rI0, rI, tVar, tNext, tBreak, tRet, tRetN, tDrop, tLst, tTup, tCons, tNil, tCB, tB, tOr, tAnd, tNot, tIf, tCall, tFor_eq, tLc_eq, iRng1, iRng2, iList, iTup, gTup, gTupH, gUnlH, gCons, gNil, gSub, rSetL, rIxL, rIxT, rIxLH, rIxTH, rSlTS, rCatS, rTupS, rIsiH, rLenS, V.ty.injEq, tyS_non, tyS_bl, tyS_int, tyS_str, tyS_ref, tyO_l, tyO_t, tyO_d, tyO_dt, kit_ll, kit_tt, kit_bb, kit_ii, kit_ib, kit_bi, kit_nt, kit_it, kit_st, kit_bt, kit_lt, kit_dt, kit_ni, kit_si, kit_ti, kit_li, kit_di, kit_nb, kit_ns, kit_is, kit_bs, kit_ss, kit_ts, kit_ls, kit_ds, kit_dd, lenS_ref, lenO_l, lenO_t,  rAppend, tM1, rIxS, tSl, tPart, tNoPart, tBM, tBM0, tDGetS, sDPutS, tTruS, truO_l, truO_t, truS_ref, truS_non, truS_bl, truS_int, tFld, sFld, sFldAug, rAdd, tMeth, tMake, tMakeK, List.take_succ_cons, List.take_zero, List.drop_succ_cons, List.drop_zero, List.take_nil, tIsN, tNotN, tAndV, tOrV, tNotV, putF, List.lookup, List.any_cons, List.any_nil, Sum.inr.injEq, HO.ins.injEq, HO.dK.injEq, eq_self, beq_self_eq_true, beq_iff_eq, decide_true, decide_false, Bool.or_true, Bool.true_or, Bool.or_false, Bool.false_or, tYes, rEq, rNe, _root_.L2.start, wipe, List.map_cons, List.map_nil, List.length_cons, List.length_nil, List.append_nil, Nat.reduceAdd, Nat.reduceSub, List.replicate_succ, List.replicate_zero, List.cons_append, List.nil_append, List.getElem?_cons_zero, List.getElem?_cons_succ, List.set_cons_zero, List.set_cons_succ, Option.some.injEq, V.int.injEq, V.ref.injEq, V.bl.injEq, V.str.injEq, List.cons.injEq, HO.lst.injEq, HO.tup.injEq, and_assoc, and_true, true_and, exists_eq_left, exists_eq_left', exists_and_left, exists_eq, reduceCtorEq, false_and, and_false, or_false, false_or, exists_false, decide_eq_true_eq, CPow, CDivW, Int.reducePow, Int.reduceLT, Int.reduceLE, Int.reduceNeg, Int.reduceToNat, Int.reduceAbs, Nat.reducePow, Nat.reduceLT, Nat.reduceLeDiff, sizeLine_eq, Int.reduceMul, Int.reduceAdd, Int.reduceSub, Bool.not_eq_true', decide_eq_false_iff_not, scal, Bool.not_true, Bool.not_false, Bool.true_eq_false, Bool.false_eq_true, ite_false, ite_true, if_true, if_false, ite_self, forall_const, atI0, atI1, atI2, atI3, ixN20, ixN21, upd_same, upd_upd, Int.zero_add, CMul, Int.reduceSub, Nat.le_refl, Nat.zero_le, or_true, true_or, exists_const, Int.sub_zero, hz'])
    refine ⟨tyL hz', by omega, ?_⟩
    have s12 : Same H (upd H2 q (HO.lst (zs ++ [V.int 0]))) := fun b o e => get_ne (ne_of_none e hq) (s2 _ _ (s1 _ _ e))
    generalize upd H2 q (HO.lst (zs ++ [V.int 0])) = H3 at s12
    have L3 := L.same s12
    have M3 := M.same s12
    obtain ⟨dx3, hv3, ws3, hp3, ih3, hl3, iw3⟩ := id L3
    obtain ⟨hv4, ws4, hd3, ihd3, hm3, iwm3⟩ := id M3
    (try simp only [ne_0_1, ne_0_1b, ne_0_5, ne_0_5b, ne_0_6, ne_0_6b, ne_0_7, ne_0_7b, ne_1_0, ne_1_0b, ne_1_2, ne_1_2b, ne_1_3, ne_1_3b, ne_1_4, ne_1_4b, ne_1_5, ne_1_5b, ne_1_6, ne_1_6b, ne_1_7, ne_1_7b, ne_1_8, ne_1_8b, ne_2_1, ne_2_1b, ne_2_5, ne_2_5b, ne_2_6, ne_2_6b, ne_2_7, ne_2_7b, ne_3_1, ne_3_1b, ne_3_5, ne_3_5b, ne_3_6, ne_3_6b, ne_3_7, ne_3_7b, ne_4_1, ne_4_1b, ne_4_5, ne_4_5b, ne_4_6, ne_4_6b, ne_4_7, ne_4_7b, ne_5_0, ne_5_0b, ne_5_1, ne_5_1b, ne_5_2, ne_5_2b, ne_5_3, ne_5_3b, ne_5_4, ne_5_4b, ne_5_6, ne_5_6b, ne_5_7, ne_5_7b, ne_5_8, ne_5_8b, ne_6_0, ne_6_0b, ne_6_1, ne_6_1b, ne_6_2, ne_6_2b, ne_6_3, ne_6_3b, ne_6_4, ne_6_4b, ne_6_5, ne_6_5b, ne_6_7, ne_6_7b, ne_6_8, ne_6_8b, ne_7_0, ne_7_0b, ne_7_1, ne_7_1b, ne_7_2, ne_7_2b, ne_7_3, ne_7_3b, ne_7_4, ne_7_4b, ne_7_5, ne_7_5b, ne_7_6, ne_7_6b, ne_7_8, ne_7_8b, ne_8_1, ne_8_1b, ne_8_5, ne_8_5b, ne_8_6, ne_8_6b, ne_8_7, ne_8_7b, cxOf, Cx.nox, Cx.wish, tSeq, tAsg, tC, gName, tIfS, tTest, tOp, tUn, rU, rI0, rI, tVar, tNext, tBreak, tRet, tRetN, tDrop, tLst, tTup, tCons, tNil, tCB, tB, tOr, tAnd, tNot, tIf, tCall, tFor_eq, tLc_eq, iRng1, iRng2, iList, iTup, gTup, gTupH, gUnlH, gCons, gNil, gSub, rSetL, rIxL, rIxT, rIxLH, rIxTH, rSlTS, rCatS, rTupS, rIsiH, rLenS, V.ty.injEq, tyS_non, tyS_bl, tyS_int, tyS_str, tyS_ref, tyO_l, tyO_t, tyO_d, tyO_dt, kit_ll, kit_tt, kit_bb, kit_ii, kit_ib, kit_bi, kit_nt, kit_it, kit_st, kit_bt, kit_lt, kit_dt, kit_ni, kit_si, kit_ti, kit_li, kit_di, kit_nb, kit_ns, kit_is, kit_bs, kit_ss, kit_ts, kit_ls, kit_ds, kit_dd, lenS_ref, lenO_l, lenO_t,  rAppend, tM1, rIxS, tSl, tPart, tNoPart, tBM, tBM0, tDGetS, sDPutS, tTruS, truO_l, truO_t, truS_ref, truS_non, truS_bl, truS_int, tFld, sFld, sFldAug, rAdd, tMeth, tMake, tMakeK, List.take_succ_cons, List.take_zero, List.drop_succ_cons, List.drop_zero, List.take_nil, tIsN, tNotN, tAndV, tOrV, tNotV, putF, List.lookup, List.any_cons, List.any_nil, Sum.inr.injEq, HO.ins.injEq, HO.dK.injEq, eq_self, beq_self_eq_true, beq_iff_eq, decide_true, decide_false, Bool.or_true, Bool.true_or, Bool.or_false, Bool.false_or, tYes, rEq, rNe, _root_.L2.start, wipe, List.map_cons, List.map_nil, List.length_cons, List.length_nil, List.append_nil, Nat.reduceAdd, Nat.reduceSub, List.replicate_succ, List.replicate_zero, List.cons_append, List.nil_append, List.getElem?_cons_zero, List.getElem?_cons_succ, List.set_cons_zero, List.set_cons_succ, Option.some.injEq, V.int.injEq, V.ref.injEq, V.bl.injEq, V.str.injEq, List.cons.injEq, HO.lst.injEq, HO.tup.injEq, and_assoc, and_true, true_and, exists_eq_left, exists_eq_left', exists_and_left, exists_eq, reduceCtorEq, false_and, and_false, or_false, false_or, exists_false, decide_eq_true_eq, CPow, CDivW, Int.reducePow, Int.reduceLT, Int.reduceLE, Int.reduceNeg, Int.reduceToNat, Int.reduceAbs, Nat.reducePow, Nat.reduceLT, Nat.reduceLeDiff, sizeLine_eq, Int.reduceMul, Int.reduceAdd, Int.reduceSub, Bool.not_eq_true', decide_eq_false_iff_not, scal, Bool.not_true, Bool.not_false, Bool.true_eq_false, Bool.false_eq_true, ite_false, ite_true, if_true, if_false, ite_self, forall_const, atI0, atI1, atI2, atI3, ixN20, ixN21, upd_same, upd_upd, Int.zero_add, CMul, Int.reduceSub, Nat.le_refl, Nat.zero_le, or_true, true_or, exists_const, Int.sub_zero, hp3, lockF])
    refine ⟨l, S, L3, fun q4 zs4 H4 hq4 s4 _ hz4 iz4 => ?_⟩
    (try simp only [ne_0_1, ne_0_1b, ne_0_5, ne_0_5b, ne_0_6, ne_0_6b, ne_0_7, ne_0_7b, ne_1_0, ne_1_0b, ne_1_2, ne_1_2b, ne_1_3, ne_1_3b, ne_1_4, ne_1_4b, ne_1_5, ne_1_5b, ne_1_6, ne_1_6b, ne_1_7, ne_1_7b, ne_1_8, ne_1_8b, ne_2_1, ne_2_1b, ne_2_5, ne_2_5b, ne_2_6, ne_2_6b, ne_2_7, ne_2_7b, ne_3_1, ne_3_1b, ne_3_5, ne_3_5b, ne_3_6, ne_3_6b, ne_3_7, ne_3_7b, ne_4_1, ne_4_1b, ne_4_5, ne_4_5b, ne_4_6, ne_4_6b, ne_4_7, ne_4_7b, ne_5_0, ne_5_0b, ne_5_1, ne_5_1b, ne_5_2, ne_5_2b, ne_5_3, ne_5_3b, ne_5_4, ne_5_4b, ne_5_6, ne_5_6b, ne_5_7, ne_5_7b, ne_5_8, ne_5_8b, ne_6_0, ne_6_0b, ne_6_1, ne_6_1b, ne_6_2, ne_6_2b, ne_6_3, ne_6_3b, ne_6_4, ne_6_4b, ne_6_5, ne_6_5b, ne_6_7, ne_6_7b, ne_6_8, ne_6_8b, ne_7_0, ne_7_0b, ne_7_1, ne_7_1b, ne_7_2, ne_7_2b, ne_7_3, ne_7_3b, ne_7_4, ne_7_4b, ne_7_5, ne_7_5b, ne_7_6, ne_7_6b, ne_7_8, ne_7_8b, ne_8_1, ne_8_1b, ne_8_5, ne_8_5b, ne_8_6, ne_8_6b, ne_8_7, ne_8_7b, cxOf, Cx.nox, Cx.wish, tSeq, tAsg, tC, gName, tIfS, tTest, tOp, tUn, rU, rI0, rI, tVar, tNext, tBreak, tRet, tRetN, tDrop, tLst, tTup, tCons, tNil, tCB, tB, tOr, tAnd, tNot, tIf, tCall, tFor_eq, tLc_eq, iRng1, iRng2, iList, iTup, gTup, gTupH, gUnlH, gCons, gNil, gSub, rSetL, rIxL, rIxT, rIxLH, rIxTH, rSlTS, rCatS, rTupS, rIsiH, rLenS, V.ty.injEq, tyS_non, tyS_bl, tyS_int, tyS_str, tyS_ref, tyO_l, tyO_t, tyO_d, tyO_dt, kit_ll, kit_tt, kit_bb, kit_ii, kit_ib, kit_bi, kit_nt, kit_it, kit_st, kit_bt, kit_lt, kit_dt, kit_ni, kit_si, kit_ti, kit_li, kit_di, kit_nb, kit_ns, kit_is, kit_bs, kit_ss, kit_ts, kit_ls, kit_ds, kit_dd, lenS_ref, lenO_l, lenO_t,  rAppend, tM1, rIxS, tSl, tPart, tNoPart, tBM, tBM0, tDGetS, sDPutS, tTruS, truO_l, truO_t, truS_ref, truS_non, truS_bl, truS_int, tFld, sFld, sFldAug, rAdd, tMeth, tMake, tMakeK, List.take_succ_cons, List.take_zero, List.drop_succ_cons, List.drop_zero, List.take_nil, tIsN, tNotN, tAndV, tOrV, tNotV, putF, List.lookup, List.any_cons, List.any_nil, Sum.inr.injEq, HO.ins.injEq, HO.dK.injEq, eq_self, beq_self_eq_true, beq_iff_eq, decide_true, decide_false, Bool.or_true, Bool.true_or, Bool.or_false, Bool.false_or, tYes, rEq, rNe, _root_.L2.start, wipe, List.map_cons, List.map_nil, List.length_cons, List.length_nil, List.append_nil, Nat.reduceAdd, Nat.reduceSub, List.replicate_succ, List.replicate_zero, List.cons_append, List.nil_append, List.getElem?_cons_zero, List.getElem?_cons_succ, List.set_cons_zero, List.set_cons_succ, Option.some.injEq, V.int.injEq, V.ref.injEq, V.bl.injEq, V.str.injEq, List.cons.injEq, HO.lst.injEq, HO.tup.injEq, and_assoc, and_true, true_and, exists_eq_left, exists_eq_left', exists_and_left, exists_eq, reduceCtorEq, false_and, and_false, or_false, false_or, exists_false, decide_eq_true_eq, CPow, CDivW, Int.reducePow, Int.reduceLT, Int.reduceLE, Int.reduceNeg, Int.reduceToNat, Int.reduceAbs, Nat.reducePow, Nat.reduceLT, Nat.reduceLeDiff, sizeLine_eq, Int.reduceMul, Int.reduceAdd, Int.reduceSub, Bool.not_eq_true', decide_eq_false_iff_not, scal, Bool.not_true, Bool.not_false, Bool.true_eq_false, Bool.false_eq_true, ite_false, ite_true, if_true, if_false, ite_self, forall_const, atI0, atI1, atI2, atI3, ixN20, ixN21, upd_same, upd_upd, Int.zero_add, CMul, Int.reduceSub, Nat.le_refl, Nat.zero_le, or_true, true_or, exists_const, Int.sub_zero, s4 _ _ hd3, modF_waiting, rSortD, s4 _ _ hm3])
    refine ⟨_, Same.ims s4 iwm3, wDs_alike _, wDs_sortable _, wDs_depth _, fun q5 zs5 H5 hq5 s5 _ hz5 iz5 => ?_⟩
    rw [sortW_map] at iz5
    refine ⟨_, _, .lst (SqL.of (s5 _ _ hz4)) (ImAll.dp _ _ (Same.ims s5 iz4)), .lst (SqL.of hz5) (ImAll.dp _ _ iz5), wDs_shaped _, wDs_shaped _, ?_⟩
    rw [SeqAt.eqv_refl _ (SeqAt.canLay_of_shaped (wDs_shaped (sortW S.waiting)))]
    (try simp only [ne_0_1, ne_0_1b, ne_0_5, ne_0_5b, ne_0_6, ne_0_6b, ne_0_7, ne_0_7b, ne_1_0, ne_1_0b, ne_1_2, ne_1_2b, ne_1_3, ne_1_3b, ne_1_4, ne_1_4b, ne_1_5, ne_1_5b, ne_1_6, ne_1_6b, ne_1_7, ne_1_7b, ne_1_8, ne_1_8b, ne_2_1, ne_2_1b, ne_2_5, ne_2_5b, ne_2_6, ne_2_6b, ne_2_7, ne_2_7b, ne_3_1, ne_3_1b, ne_3_5, ne_3_5b, ne_3_6, ne_3_6b, ne_3_7, ne_3_7b, ne_4_1, ne_4_1b, ne_4_5, ne_4_5b, ne_4_6, ne_4_6b, ne_4_7, ne_4_7b, ne_5_0, ne_5_0b, ne_5_1, ne_5_1b, ne_5_2, ne_5_2b, ne_5_3, ne_5_3b, ne_5_4, ne_5_4b, ne_5_6, ne_5_6b, ne_5_7, ne_5_7b, ne_5_8, ne_5_8b, ne_6_0, ne_6_0b, ne_6_1, ne_6_1b, ne_6_2, ne_6_2b, ne_6_3, ne_6_3b, ne_6_4, ne_6_4b, ne_6_5, ne_6_5b, ne_6_7, ne_6_7b, ne_6_8, ne_6_8b, ne_7_0, ne_7_0b, ne_7_1, ne_7_1b, ne_7_2, ne_7_2b, ne_7_3, ne_7_3b, ne_7_4, ne_7_4b, ne_7_5, ne_7_5b, ne_7_6, ne_7_6b, ne_7_8, ne_7_8b, ne_8_1, ne_8_1b, ne_8_5, ne_8_5b, ne_8_6, ne_8_6b, ne_8_7, ne_8_7b, cxOf, Cx.nox, Cx.wish, tSeq, tAsg, tC, gName, tIfS, tTest, tOp, tUn, rU, rI0, rI, tVar, tNext, tBreak, tRet, tRetN, tDrop, tLst, tTup, tCons, tNil, tCB, tB, tOr, tAnd, tNot, tIf, tCall, tFor_eq, tLc_eq, iRng1, iRng2, iList, iTup, gTup, gTupH, gUnlH, gCons, gNil, gSub, rSetL, rIxL, rIxT, rIxLH, rIxTH, rSlTS, rCatS, rTupS, rIsiH, rLenS, V.ty.injEq, tyS_non, tyS_bl, tyS_int, tyS_str, tyS_ref, tyO_l, tyO_t, tyO_d, tyO_dt, kit_ll, kit_tt, kit_bb, kit_ii, kit_ib, kit_bi, kit_nt, kit_it, kit_st, kit_bt, kit_lt, kit_dt, kit_ni, kit_si, kit_ti, kit_li, kit_di, kit_nb, kit_ns, kit_is, kit_bs, kit_ss, kit_ts, kit_ls, kit_ds, kit_dd, lenS_ref, lenO_l, lenO_t,  rAppend, tM1, rIxS, tSl, tPart, tNoPart, tBM, tBM0, tDGetS, sDPutS, tTruS, truO_l, truO_t, truS_ref, truS_non, truS_bl, truS_int, tFld, sFld, sFldAug, rAdd, tMeth, tMake, tMakeK, List.take_succ_cons, List.take_zero, List.drop_succ_cons, List.drop_zero, List.take_nil, tIsN, tNotN, tAndV, tOrV, tNotV, putF, List.lookup, List.any_cons, List.any_nil, Sum.inr.injEq, HO.ins.injEq, HO.dK.injEq, eq_self, beq_self_eq_true, beq_iff_eq, decide_true, decide_false, Bool.or_true, Bool.true_or, Bool.or_false, Bool.false_or, tYes, rEq, rNe, _root_.L2.start, wipe, List.map_cons, List.map_nil, List.length_cons, List.length_nil, List.append_nil, Nat.reduceAdd, Nat.reduceSub, List.replicate_succ, List.replicate_zero, List.cons_append, List.nil_append, List.getElem?_cons_zero, List.getElem?_cons_succ, List.set_cons_zero, List.set_cons_succ, Option.some.injEq, V.int.injEq, V.ref.injEq, V.bl.injEq, V.str.injEq, List.cons.injEq, HO.lst.injEq, HO.tup.injEq, and_assoc, and_true, true_and, exists_eq_left, exists_eq_left', exists_and_left, exists_eq, reduceCtorEq, false_and, and_false, or_false, false_or, exists_false, decide_eq_true_eq, CPow, CDivW, Int.reducePow, Int.reduceLT, Int.reduceLE, Int.reduceNeg, Int.reduceToNat, Int.reduceAbs, Nat.reducePow, Nat.reduceLT, Nat.reduceLeDiff, sizeLine_eq, Int.reduceMul, Int.reduceAdd, Int.reduceSub, Bool.not_eq_true', decide_eq_false_iff_not, scal, Bool.not_true, Bool.not_false, Bool.true_eq_false, Bool.false_eq_true, ite_false, ite_true, if_true, if_false, ite_self, forall_const, atI0, atI1, atI2, atI3, ixN20, ixN21, upd_same, upd_upd, Int.zero_add, CMul, Int.reduceSub, Nat.le_refl, Nat.zero_le, or_true, true_or, exists_const, Int.sub_zero, s5 _ _ (s4 _ _ hp3), s5 _ _ (s4 _ _ hd3), T.cl_Lock, T.n_Lock_holder, T.n_Lock_value, T.n_Lock_turn, lockF, modF_holder, modF_value, modF_turn, rNeD])
    refine ⟨_, Im.dp _ _ (Same.im s5 (Same.im s4 ih3)), _, Im.dp _ _ (Same.im s5 (Same.im s4 ihd3)), hD_shaped _, hD_shaped _, ?_⟩
    rw [hD_eqv]
    (try simp only [ne_0_1, ne_0_1b, ne_0_5, ne_0_5b, ne_0_6, ne_0_6b, ne_0_7, ne_0_7b, ne_1_0, ne_1_0b, ne_1_2, ne_1_2b, ne_1_3, ne_1_3b, ne_1_4, ne_1_4b, ne_1_5, ne_1_5b, ne_1_6, ne_1_6b, ne_1_7, ne_1_7b, ne_1_8, ne_1_8b, ne_2_1, ne_2_1b, ne_2_5, ne_2_5b, ne_2_6, ne_2_6b, ne_2_7, ne_2_7b, ne_3_1, ne_3_1b, ne_3_5, ne_3_5b, ne_3_6, ne_3_6b, ne_3_7, ne_3_7b, ne_4_1, ne_4_1b, ne_4_5, ne_4_5b, ne_4_6, ne_4_6b, ne_4_7, ne_4_7b, ne_5_0, ne_5_0b, ne_5_1, ne_5_1b, ne_5_2, ne_5_2b, ne_5_3, ne_5_3b, ne_5_4, ne_5_4b, ne_5_6, ne_5_6b, ne_5_7, ne_5_7b, ne_5_8, ne_5_8b, ne_6_0, ne_6_0b, ne_6_1, ne_6_1b, ne_6_2, ne_6_2b, ne_6_3, ne_6_3b, ne_6_4, ne_6_4b, ne_6_5, ne_6_5b, ne_6_7, ne_6_7b, ne_6_8, ne_6_8b, ne_7_0, ne_7_0b, ne_7_1, ne_7_1b, ne_7_2, ne_7_2b, ne_7_3, ne_7_3b, ne_7_4, ne_7_4b, ne_7_5, ne_7_5b, ne_7_6, ne_7_6b, ne_7_8, ne_7_8b, ne_8_1, ne_8_1b, ne_8_5, ne_8_5b, ne_8_6, ne_8_6b, ne_8_7, ne_8_7b, cxOf, Cx.nox, Cx.wish, tSeq, tAsg, tC, gName, tIfS, tTest, tOp, tUn, rU, rI0, rI, tVar, tNext, tBreak, tRet, tRetN, tDrop, tLst, tTup, tCons, tNil, tCB, tB, tOr, tAnd, tNot, tIf, tCall, tFor_eq, tLc_eq, iRng1, iRng2, iList, iTup, gTup, gTupH, gUnlH, gCons, gNil, gSub, rSetL, rIxL, rIxT, rIxLH, rIxTH, rSlTS, rCatS, rTupS, rIsiH, rLenS, V.ty.injEq, tyS_non, tyS_bl, tyS_int, tyS_str, tyS_ref, tyO_l, tyO_t, tyO_d, tyO_dt, kit_ll, kit_tt, kit_bb, kit_ii, kit_ib, kit_bi, kit_nt, kit_it, kit_st, kit_bt, kit_lt, kit_dt, kit_ni, kit_si, kit_ti, kit_li, kit_di, kit_nb, kit_ns, kit_is, kit_bs, kit_ss, kit_ts, kit_ls, kit_ds, kit_dd, lenS_ref, lenO_l, lenO_t,  rAppend, tM1, rIxS, tSl, tPart, tNoPart, tBM, tBM0, tDGetS, sDPutS, tTruS, truO_l, truO_t, truS_ref, truS_non, truS_bl, truS_int, tFld, sFld, sFldAug, rAdd, tMeth, tMake, tMakeK, List.take_succ_cons, List.take_zero, List.drop_succ_cons, List.drop_zero, List.take_nil, tIsN, tNotN, tAndV, tOrV, tNotV, putF, List.lookup, List.any_cons, List.any_nil, Sum.inr.injEq, HO.ins.injEq, HO.dK.injEq, eq_self, beq_self_eq_true, beq_iff_eq, decide_true, decide_false, Bool.or_true, Bool.true_or, Bool.or_false, Bool.false_or, tYes, rEq, rNe, _root_.L2.start, wipe, List.map_cons, List.map_nil, List.length_cons, List.length_nil, List.append_nil, Nat.reduceAdd, Nat.reduceSub, List.replicate_succ, List.replicate_zero, List.cons_append, List.nil_append, List.getElem?_cons_zero, List.getElem?_cons_succ, List.set_cons_zero, List.set_cons_succ, Option.some.injEq, V.int.injEq, V.ref.injEq, V.bl.injEq, V.str.injEq, List.cons.injEq, HO.lst.injEq, HO.tup.injEq, and_assoc, and_true, true_and, exists_eq_left, exists_eq_left', exists_and_left, exists_eq, reduceCtorEq, false_and, and_false, or_false, false_or, exists_false, decide_eq_true_eq, CPow, CDivW, Int.reducePow, Int.reduceLT, Int.reduceLE, Int.reduceNeg, Int.reduceToNat, Int.reduceAbs, Nat.reducePow, Nat.reduceLT, Nat.reduceLeDiff, sizeLine_eq, Int.reduceMul, Int.reduceAdd, Int.reduceSub, Bool.not_eq_true', decide_eq_false_iff_not, scal, Bool.not_true, Bool.not_false, Bool.true_eq_false, Bool.false_eq_true, ite_false, ite_true, if_true, if_false, ite_self, forall_const, atI0, atI1, atI2, atI3, ixN20, ixN21, upd_same, upd_upd, Int.zero_add, CMul, Int.reduceSub, Nat.le_refl, Nat.zero_le, or_true, true_or, exists_const, Int.sub_zero, s5 _ _ (s4 _ _ hp3), s5 _ _ (s4 _ _ hd3), T.cl_Lock, T.n_Lock_holder, T.n_Lock_value, T.n_Lock_turn, lockF, modF_holder, modF_value, modF_turn, sp_law_is])
    exact kk _ ((s12.trans s4).trans s5)
def sp_Lock_ask (C : Addr) : Sp := fun vs H Q _ => ∃ (p l : Addr) (S : LS) (w : Who) (wv : V), vs = [.ref p, wv] ∧ LockAt C H p l S ∧ Im H (wD w) wv ∧ S.waiting.length ≤ 1000 ∧
  ∀ (l' q : Addr) (zs : List V) (H' : Hp), LockAt C H' p l' (askS S w).1 → H l' = none → H q = none → q ≠ l' → H' q = some (.lst zs) → ImAll H' ((askS S w).2.map wD) zs → Bt p l H H' → Q (.ref q) H'
theorem ok_Lock_ask (T : Txt K mg) : FnOk P w K mg base CX0 3 T.f_Lock_ask T.d_Lock_ask ["self", "who"] (sp_Lock_ask T.C_Lock) := by
  refine Fun.ok T.F_Lock_ask sc_Lock_ask (fun vs H Q E h => ?_) (fun cdv A outer s H vs Q E hr h => ?_)
  · obtain ⟨p, l, S, w', wv, rfl, ⟨dx, hv, ws, hp, ih, hl, iw⟩, iwv, hlen, kk⟩ := h; rfl
  · obtain ⟨p, l, S, w', wv, rfl, ⟨dx, hv, ws, hp, ih, hl, iw⟩, iwv, hlen, kk⟩ := h
    have hu := hu_of hr
    refine ⟨_, (pss_cons (ps_asg (pv 1) (pg_tupH 2 rfl (pgs_cons (pg_name (i := 2) sc_Lock_ask.nd rfl (Or.inl rfl)) (pgs_cons (pg_name (i := 3) sc_Lock_ask.nd rfl (Or.inl rfl)) pgs_nil))))
      (pss_cons (ps_set (i := 4) sc_Lock_ask.nd rfl (Or.inl rfl) (pe_meth (pv 0) T.cl_Lock T.m_Lock_free (ok_Lock_free T) (hr.mono (by decide)) T.b_Lock_free .nil pass0 (pa_cons (pv 2) (pa_cons (pe_op op_sub (pv 3) pe_int) pa_nil))))
      (pss_cons (ps_if (pt_cmp (pc_isN (pe_fld (pv 0) rfl))) (pss_cons (ps_expr (pe_meth (pv 0) T.cl_Lock T.m_Lock_grant (ok_Lock_grant T) (hr.mono (by decide)) T.b_Lock_grant .nil pass0 (pa_cons (pv 1) pa_nil)))
      (pss_one (ps_ret (pe_lst (pa_cons (pv 1) pa_nil))))) pss_nil)
      (C8.pss_cut (ps_if (PW.pt (pw_and (pt_cmpR (op_neDK (K := K) rfl hr.units) (pe_fld (pv 0) rfl) (pv 1) (nomark _)) (pw_and1 (pt_cmpR (op_notInDK (K := K) rfl (hu65 hr)) (pv 1) (pe_fld (pv 0) rfl) (by rfl))))) (pss_one (ps_expr (pe_bm PySem.F.plainAttrs_list PySem.F.slot_list_append PySem.F.type_list_append mt_append (pe_fld (pv 0) rfl) (pa_cons (pv 1) pa_nil)))) pss_nil)
      (pss_one (ps_ret (pv 4))))))), ?_⟩
    obtain ⟨a, tv, rfl, ha, itv⟩ := wD_at iwv
    (try simp only [ne_0_1, ne_0_1b, ne_0_5, ne_0_5b, ne_0_6, ne_0_6b, ne_0_7, ne_0_7b, ne_1_0, ne_1_0b, ne_1_2, ne_1_2b, ne_1_3, ne_1_3b, ne_1_4, ne_1_4b, ne_1_5, ne_1_5b, ne_1_6, ne_1_6b, ne_1_7, ne_1_7b, ne_1_8, ne_1_8b, ne_2_1, ne_2_1b, ne_2_5, ne_2_5b, ne_2_6, ne_2_6b, ne_2_7, ne_2_7b, ne_3_1, ne_3_1b, ne_3_5, ne_3_5b, ne_3_6, ne_3_6b, ne_3_7, ne_3_7b, ne_4_1, ne_4_1b, ne_4_5, ne_4_5b, ne_4_6, ne_4_6b, ne_4_7, ne_4_7b, ne_5_0, ne_5_0b, ne_5_1, ne_5_1b, ne_5_2, ne_5_2b, ne_5_3, ne_5_3b, ne_5_4, ne_5_4b, ne_5_6, ne_5_6b, ne_5_7, ne_5_7b, ne_5_8, ne_5_8b, ne_6_0, ne_6_0b, ne_6_1, ne_6_1b, ne_6_2, ne_6_2b, ne_6_3, ne_6_3b, ne_6_4, ne_6_4b, ne_6_5, ne_6_5b, ne_6_7, ne_6_7b, ne_6_8, ne_6_8b, ne_7_0, ne_7_0b, ne_7_1, ne_7_1b, ne_7_2, ne_7_2b, ne_7_3, ne_7_3b, ne_7_4, ne_7_4b, ne_7_5, ne_7_5b, ne_7_6, ne_7_6b, ne_7_8, ne_7_8b, ne_8_1, ne_8_1b, ne_8_5, ne_8_5b, ne_8_6, ne_8_6b, ne_8_7, ne_8_7b, cxOf, Cx.nox, Cx.wish, tSeq, tAsg, tC, gName, tIfS, tTest, tOp, tUn, rU, rI0, rI, tVar, tNext, tBreak, tRet, tRetN, tDrop, tLst, tTup, tCons, tNil, tCB, tB, tOr, tAnd, tNot, tIf, tCall, tFor_eq, tLc_eq, iRng1, iRng2, iList, iTup, gTup, gTupH, gUnlH, gCons, gNil, gSub, rSetL, rIxL, rIxT, rIxLH, rIxTH, rSlTS, rCatS, rTupS, rIsiH, rLenS, V.ty.injEq, tyS_non, tyS_bl, tyS_int, tyS_str, tyS_ref, tyO_l, tyO_t, tyO_d, tyO_dt, kit_ll, kit_tt, kit_bb, kit_ii, kit_ib, kit_bi, kit_nt, kit_it, kit_st, kit_bt, kit_lt, kit_dt, kit_ni, kit_si, kit_ti, kit_li, kit_di, kit_nb, kit_ns, kit_is, kit_bs, kit_ss, kit_ts, kit_ls, kit_ds, kit_dd, lenS_ref, lenO_l, lenO_t,  rAppend, tM1, rIxS, tSl, tPart, tNoPart, tBM, tBM0, tDGetS, sDPutS, tTruS, truO_l, truO_t, truS_ref, truS_non, truS_bl, truS_int, tFld, sFld, sFldAug, rAdd, tMeth, tMake, tMakeK, List.take_succ_cons, List.take_zero, List.drop_succ_cons, List.drop_zero, List.take_nil, tIsN, tNotN, tAndV, tOrV, tNotV, putF, List.lookup, List.any_cons, List.any_nil, Sum.inr.injEq, HO.ins.injEq, HO.dK.injEq, eq_self, beq_self_eq_true, beq_iff_eq, decide_true, decide_false, Bool.or_true, Bool.true_or, Bool.or_false, Bool.false_or, tYes, rEq, rNe, _root_.L2.start, wipe, List.map_cons, List.map_nil, List.length_cons, List.length_nil, List.append_nil, Nat.reduceAdd, Nat.reduceSub, List.replicate_succ, List.replicate_zero, List.cons_append, List.nil_append, List.getElem?_cons_zero, List.getElem?_cons_succ, List.set_cons_zero, List.set_cons_succ, Option.some.injEq, V.int.injEq, V.ref.injEq, V.bl.injEq, V.str.injEq, List.cons.injEq, HO.lst.injEq, HO.tup.injEq, and_assoc, and_true, true_and, exists_eq_left, exists_eq_left', exists_and_left, exists_eq, reduceCtorEq, false_and, and_false, or_false, false_or, exists_false, decide_eq_true_eq, CPow, CDivW, Int.reducePow, Int.reduceLT, Int.reduceLE, Int.reduceNeg, Int.reduceToNat, Int.reduceAbs, Nat.reducePow, Nat.reduceLT, Nat.reduceLeDiff, sizeLine_eq, Int.reduceMul, Int.reduceAdd, Int.reduceSub, Bool.not_eq_true', decide_eq_false_iff_not, scal, Bool.not_true, Bool.not_false, Bool.true_eq_false, Bool.false_eq_true, ite_false, ite_true, if_true, if_false, ite_self, forall_const, atI0, atI1, atI2, atI3, ixN20, ixN21, upd_same, upd_upd, Int.zero_add, CMul, Int.reduceSub, Nat.le_refl, Nat.zero_le, or_true, true_or, exists_const, Int.sub_zero, ha, hp, T.cl_Lock, T.n_Lock_waiting, T.n_Lock_holder, lockF, sp_Lock_free])
    refine ⟨l, S, ⟨dx, hv, ws, hp, ih, hl, iw⟩, w'.tr, itv, hlen, fun l1 q zs H1 L1 hl1 hq nql hz iz bt => ?_⟩
    obtain ⟨dx1, hv1, ws1, p1, i1, l1', iw1⟩ := id L1
    have tk := Bt.tk bt hp hl
    have iw' : Im H1 (wD w') (.ref a) := Im.mono tk _ _ iwv
    have hv' := freeS_value S w'.tr (w'.2.2 - 1)
    have hfl := freeS_len S w'.tr (w'.2.2 - 1)
    have nl1p : l1 ≠ p := (ne_il p1 l1').symm
    cases hS : (freeS S w'.tr (w'.2.2 - 1)).1.holder with
    | none =>
      rw [hS] at i1
      have := hD_none i1
      subst this
      have e : askS S w' = (⟨S.value, (freeS S w'.tr (w'.2.2 - 1)).1.turn + 1, some w', (freeS S w'.tr (w'.2.2 - 1)).1.waiting⟩, [w']) := by unfold askS; rw [hS]
      rw [e] at kk
      (try simp only [ne_0_1, ne_0_1b, ne_0_5, ne_0_5b, ne_0_6, ne_0_6b, ne_0_7, ne_0_7b, ne_1_0, ne_1_0b, ne_1_2, ne_1_2b, ne_1_3, ne_1_3b, ne_1_4, ne_1_4b, ne_1_5, ne_1_5b, ne_1_6, ne_1_6b, ne_1_7, ne_1_7b, ne_1_8, ne_1_8b, ne_2_1, ne_2_1b, ne_2_5, ne_2_5b, ne_2_6, ne_2_6b, ne_2_7, ne_2_7b, ne_3_1, ne_3_1b, ne_3_5, ne_3_5b, ne_3_6, ne_3_6b, ne_3_7, ne_3_7b, ne_4_1, ne_4_1b, ne_4_5, ne_4_5b, ne_4_6, ne_4_6b, ne_4_7, ne_4_7b, ne_5_0, ne_5_0b, ne_5_1, ne_5_1b, ne_5_2, ne_5_2b, ne_5_3, ne_5_3b, ne_5_4, ne_5_4b, ne_5_6, ne_5_6b, ne_5_7, ne_5_7b, ne_5_8, ne_5_8b, ne_6_0, ne_6_0b, ne_6_1, ne_6_1b, ne_6_2, ne_6_2b, ne_6_3, ne_6_3b, ne_6_4, ne_6_4b, ne_6_5, ne_6_5b, ne_6_7, ne_6_7b, ne_6_8, ne_6_8b, ne_7_0, ne_7_0b, ne_7_1, ne_7_1b, ne_7_2, ne_7_2b, ne_7_3, ne_7_3b, ne_7_4, ne_7_4b, ne_7_5, ne_7_5b, ne_7_6, ne_7_6b, ne_7_8, ne_7_8b, ne_8_1, ne_8_1b, ne_8_5, ne_8_5b, ne_8_6, ne_8_6b, ne_8_7, ne_8_7b, cxOf, Cx.nox, Cx.wish, tSeq, tAsg, tC, gName, tIfS, tTest, tOp, tUn, rU, rI0, rI, tVar, tNext, tBreak, tRet, tRetN, tDrop, tLst, tTup, tCons, tNil, tCB, tB, tOr, tAnd, tNot, tIf, tCall, tFor_eq, tLc_eq, iRng1, iRng2, iList, iTup, gTup, gTupH, gUnlH, gCons, gNil, gSub, rSetL, rIxL, rIxT, rIxLH, rIxTH, rSlTS, rCatS, rTupS, rIsiH, rLenS, V.ty.injEq, tyS_non, tyS_bl, tyS_int, tyS_str, tyS_ref, tyO_l, tyO_t, tyO_d, tyO_dt, kit_ll, kit_tt, kit_bb, kit_ii, kit_ib, kit_bi, kit_nt, kit_it, kit_st, kit_bt, kit_lt, kit_dt, kit_ni, kit_si, kit_ti, kit_li, kit_di, kit_nb, kit_ns, kit_is, kit_bs, kit_ss, kit_ts, kit_ls, kit_ds, kit_dd, lenS_ref, lenO_l, lenO_t,  rAppend, tM1, rIxS, tSl, tPart, tNoPart, tBM, tBM0, tDGetS, sDPutS, tTruS, truO_l, truO_t, truS_ref, truS_non, truS_bl, truS_int, tFld, sFld, sFldAug, rAdd, tMeth, tMake, tMakeK, List.take_succ_cons, List.take_zero, List.drop_succ_cons, List.drop_zero, List.take_nil, tIsN, tNotN, tAndV, tOrV, tNotV, putF, List.lookup, List.any_cons, List.any_nil, Sum.inr.injEq, HO.ins.injEq, HO.dK.injEq, eq_self, beq_self_eq_true, beq_iff_eq, decide_true, decide_false, Bool.or_true, Bool.true_or, Bool.or_false, Bool.false_or, tYes, rEq, rNe, _root_.L2.start, wipe, List.map_cons, List.map_nil, List.length_cons, List.length_nil, List.append_nil, Nat.reduceAdd, Nat.reduceSub, List.replicate_succ, List.replicate_zero, List.cons_append, List.nil_append, List.getElem?_cons_zero, List.getElem?_cons_succ, List.set_cons_zero, List.set_cons_succ, Option.some.injEq, V.int.injEq, V.ref.injEq, V.bl.injEq, V.str.injEq, List.cons.injEq, HO.lst.injEq, HO.tup.injEq, and_assoc, and_true, true_and, exists_eq_left, exists_eq_left', exists_and_left, exists_eq, reduceCtorEq, false_and, and_false, or_false, false_or, exists_false, decide_eq_true_eq, CPow, CDivW, Int.reducePow, Int.reduceLT, Int.reduceLE, Int.reduceNeg, Int.reduceToNat, Int.reduceAbs, Nat.reducePow, Nat.reduceLT, Nat.reduceLeDiff, sizeLine_eq, Int.reduceMul, Int.reduceAdd, Int.reduceSub, Bool.not_eq_true', decide_eq_false_iff_not, scal, Bool.not_true, Bool.not_false, Bool.true_eq_false, Bool.false_eq_true, ite_false, ite_true, if_true, if_false, ite_self, forall_const, atI0, atI1, atI2, atI3, ixN20, ixN21, upd_same, upd_upd, Int.zero_add, CMul, Int.reduceSub, Nat.le_refl, Nat.zero_le, or_true, true_or, exists_const, Int.sub_zero, p1, T.cl_Lock, T.n_Lock_waiting, T.n_Lock_holder, lockF])
      refine ⟨p, l1, _, w', .ref a, rfl, L1, iw', fun H2 L2 k2 r hr => ?_⟩
      rw [hv'] at L2
      obtain ⟨dx2, hv2, ws2, p2, i2, l2, iw2⟩ := L2
      have b2 : Bt p l H H2 := bt.trans k2.one
      refine kk l1 r [.ref a] _ ⟨dx2, hv2, ws2, get_new hr p2, imNew hr i2, get_new hr l2, imsNew hr iw2⟩ hl1 (b2.non _ hr) (ne_of_none l2 hr).symm upd_same (im_cons ?_ im_nil) (b2.new hr)
      exact imNew hr (Im.mono (Bt.tk1 k2 p1) _ _ iw')
    | some h =>
      rw [hS] at i1
      obtain ⟨qh, th, rfl, hqh, ith⟩ := hD_ref i1
      (try simp only [ne_0_1, ne_0_1b, ne_0_5, ne_0_5b, ne_0_6, ne_0_6b, ne_0_7, ne_0_7b, ne_1_0, ne_1_0b, ne_1_2, ne_1_2b, ne_1_3, ne_1_3b, ne_1_4, ne_1_4b, ne_1_5, ne_1_5b, ne_1_6, ne_1_6b, ne_1_7, ne_1_7b, ne_1_8, ne_1_8b, ne_2_1, ne_2_1b, ne_2_5, ne_2_5b, ne_2_6, ne_2_6b, ne_2_7, ne_2_7b, ne_3_1, ne_3_1b, ne_3_5, ne_3_5b, ne_3_6, ne_3_6b, ne_3_7, ne_3_7b, ne_4_1, ne_4_1b, ne_4_5, ne_4_5b, ne_4_6, ne_4_6b, ne_4_7, ne_4_7b, ne_5_0, ne_5_0b, ne_5_1, ne_5_1b, ne_5_2, ne_5_2b, ne_5_3, ne_5_3b, ne_5_4, ne_5_4b, ne_5_6, ne_5_6b, ne_5_7, ne_5_7b, ne_5_8, ne_5_8b, ne_6_0, ne_6_0b, ne_6_1, ne_6_1b, ne_6_2, ne_6_2b, ne_6_3, ne_6_3b, ne_6_4, ne_6_4b, ne_6_5, ne_6_5b, ne_6_7, ne_6_7b, ne_6_8, ne_6_8b, ne_7_0, ne_7_0b, ne_7_1, ne_7_1b, ne_7_2, ne_7_2b, ne_7_3, ne_7_3b, ne_7_4, ne_7_4b, ne_7_5, ne_7_5b, ne_7_6, ne_7_6b, ne_7_8, ne_7_8b, ne_8_1, ne_8_1b, ne_8_5, ne_8_5b, ne_8_6, ne_8_6b, ne_8_7, ne_8_7b, cxOf, Cx.nox, Cx.wish, tSeq, tAsg, tC, gName, tIfS, tTest, tOp, tUn, rU, rI0, rI, tVar, tNext, tBreak, tRet, tRetN, tDrop, tLst, tTup, tCons, tNil, tCB, tB, tOr, tAnd, tNot, tIf, tCall, tFor_eq, tLc_eq, iRng1, iRng2, iList, iTup, gTup, gTupH, gUnlH, gCons, gNil, gSub, rSetL, rIxL, rIxT, rIxLH, rIxTH, rSlTS, rCatS, rTupS, rIsiH, rLenS, V.ty.injEq, tyS_non, tyS_bl, tyS_int, tyS_str, tyS_ref, tyO_l, tyO_t, tyO_d, tyO_dt, kit_ll, kit_tt, kit_bb, kit_ii, kit_ib, kit_bi, kit_nt, kit_it, kit_st, kit_bt, kit_lt, kit_dt, kit_ni, kit_si, kit_ti, kit_li, kit_di, kit_nb, kit_ns, kit_is, kit_bs, kit_ss, kit_ts, kit_ls, kit_ds, kit_dd, lenS_ref, lenO_l, lenO_t,  rAppend, tM1, rIxS, tSl, tPart, tNoPart, tBM, tBM0, tDGetS, sDPutS, tTruS, truO_l, truO_t, truS_ref, truS_non, truS_bl, truS_int, tFld, sFld, sFldAug, rAdd, tMeth, tMake, tMakeK, List.take_succ_cons, List.take_zero, List.drop_succ_cons, List.drop_zero, List.take_nil, tIsN, tNotN, tAndV, tOrV, tNotV, putF, List.lookup, List.any_cons, List.any_nil, Sum.inr.injEq, HO.ins.injEq, HO.dK.injEq, eq_self, beq_self_eq_true, beq_iff_eq, decide_true, decide_false, Bool.or_true, Bool.true_or, Bool.or_false, Bool.false_or, tYes, rEq, rNe, _root_.L2.start, wipe, List.map_cons, List.map_nil, List.length_cons, List.length_nil, List.append_nil, Nat.reduceAdd, Nat.reduceSub, List.replicate_succ, List.replicate_zero, List.cons_append, List.nil_append, List.getElem?_cons_zero, List.getElem?_cons_succ, List.set_cons_zero, List.set_cons_succ, Option.some.injEq, V.int.injEq, V.ref.injEq, V.bl.injEq, V.str.injEq, List.cons.injEq, HO.lst.injEq, HO.tup.injEq, and_assoc, and_true, true_and, exists_eq_left, exists_eq_left', exists_and_left, exists_eq, reduceCtorEq, false_and, and_false, or_false, false_or, exists_false, decide_eq_true_eq, CPow, CDivW, Int.reducePow, Int.reduceLT, Int.reduceLE, Int.reduceNeg, Int.reduceToNat, Int.reduceAbs, Nat.reducePow, Nat.reduceLT, Nat.reduceLeDiff, sizeLine_eq, Int.reduceMul, Int.reduceAdd, Int.reduceSub, Bool.not_eq_true', decide_eq_false_iff_not, scal, Bool.not_true, Bool.not_false, Bool.true_eq_false, Bool.false_eq_true, ite_false, ite_true, if_true, if_false, ite_self, forall_const, atI0, atI1, atI2, atI3, ixN20, ixN21, upd_same, upd_upd, Int.zero_add, CMul, Int.reduceSub, Nat.le_refl, Nat.zero_le, or_true, true_or, exists_const, Int.sub_zero, p1, T.cl_Lock, T.n_Lock_waiting, T.n_Lock_holder, lockF])
      refine cutI (fun σ H' => σ = [some (.ref p), some (.ref a), some tv, some (.int w'.2.2), some (.ref q)] ∧ LockAt T.C_Lock H' p l1 (askS S w').1 ∧ H' q = some (.lst zs) ∧ ImAll H' ((askS S w').2.map wD) zs ∧ Bt p l H H') ?_ ?_
      · (try simp only [ne_0_1, ne_0_1b, ne_0_5, ne_0_5b, ne_0_6, ne_0_6b, ne_0_7, ne_0_7b, ne_1_0, ne_1_0b, ne_1_2, ne_1_2b, ne_1_3, ne_1_3b, ne_1_4, ne_1_4b, ne_1_5, ne_1_5b, ne_1_6, ne_1_6b, ne_1_7, ne_1_7b, ne_1_8, ne_1_8b, ne_2_1, ne_2_1b, ne_2_5, ne_2_5b, ne_2_6, ne_2_6b, ne_2_7, ne_2_7b, ne_3_1, ne_3_1b, ne_3_5, ne_3_5b, ne_3_6, ne_3_6b, ne_3_7, ne_3_7b, ne_4_1, ne_4_1b, ne_4_5, ne_4_5b, ne_4_6, ne_4_6b, ne_4_7, ne_4_7b, ne_5_0, ne_5_0b, ne_5_1, ne_5_1b, ne_5_2, ne_5_2b, ne_5_3, ne_5_3b, ne_5_4, ne_5_4b, ne_5_6, ne_5_6b, ne_5_7, ne_5_7b, ne_5_8, ne_5_8b, ne_6_0, ne_6_0b, ne_6_1, ne_6_1b, ne_6_2, ne_6_2b, ne_6_3, ne_6_3b, ne_6_4, ne_6_4b, ne_6_5, ne_6_5b, ne_6_7, ne_6_7b, ne_6_8, ne_6_8b, ne_7_0, ne_7_0b, ne_7_1, ne_7_1b, ne_7_2, ne_7_2b, ne_7_3, ne_7_3b, ne_7_4, ne_7_4b, ne_7_5, ne_7_5b, ne_7_6, ne_7_6b, ne_7_8, ne_7_8b, ne_8_1, ne_8_1b, ne_8_5, ne_8_5b, ne_8_6, ne_8_6b, ne_8_7, ne_8_7b, cxOf, Cx.nox, Cx.wish, tSeq, tAsg, tC, gName, tIfS, tTest, tOp, tUn, rU, rI0, rI, tVar, tNext, tBreak, tRet, tRetN, tDrop, tLst, tTup, tCons, tNil, tCB, tB, tOr, tAnd, tNot, tIf, tCall, tFor_eq, tLc_eq, iRng1, iRng2, iList, iTup, gTup, gTupH, gUnlH, gCons, gNil, gSub, rSetL, rIxL, rIxT, rIxLH, rIxTH, rSlTS, rCatS, rTupS, rIsiH, rLenS, V.ty.injEq, tyS_non, tyS_bl, tyS_int, tyS_str, tyS_ref, tyO_l, tyO_t, tyO_d, tyO_dt, kit_ll, kit_tt, kit_bb, kit_ii, kit_ib, kit_bi, kit_nt, kit_it, kit_st, kit_bt, kit_lt, kit_dt, kit_ni, kit_si, kit_ti, kit_li, kit_di, kit_nb, kit_ns, kit_is, kit_bs, kit_ss, kit_ts, kit_ls, kit_ds, kit_dd, lenS_ref, lenO_l, lenO_t,  rAppend, tM1, rIxS, tSl, tPart, tNoPart, tBM, tBM0, tDGetS, sDPutS, tTruS, truO_l, truO_t, truS_ref, truS_non, truS_bl, truS_int, tFld, sFld, sFldAug, rAdd, tMeth, tMake, tMakeK, List.take_succ_cons, List.take_zero, List.drop_succ_cons, List.drop_zero, List.take_nil, tIsN, tNotN, tAndV, tOrV, tNotV, putF, List.lookup, List.any_cons, List.any_nil, Sum.inr.injEq, HO.ins.injEq, HO.dK.injEq, eq_self, beq_self_eq_true, beq_iff_eq, decide_true, decide_false, Bool.or_true, Bool.true_or, Bool.or_false, Bool.false_or, tYes, rEq, rNe, _root_.L2.start, wipe, List.map_cons, List.map_nil, List.length_cons, List.length_nil, List.append_nil, Nat.reduceAdd, Nat.reduceSub, List.replicate_succ, List.replicate_zero, List.cons_append, List.nil_append, List.getElem?_cons_zero, List.getElem?_cons_succ, List.set_cons_zero, List.set_cons_succ, Option.some.injEq, V.int.injEq, V.ref.injEq, V.bl.injEq, V.str.injEq, List.cons.injEq, HO.lst.injEq, HO.tup.injEq, and_assoc, and_true, true_and, exists_eq_left, exists_eq_left', exists_and_left, exists_eq, reduceCtorEq, false_and, and_false, or_false, false_or, exists_false, decide_eq_true_eq, CPow, CDivW, Int.reducePow, Int.reduceLT, Int.reduceLE, Int.reduceNeg, Int.reduceToNat, Int.reduceAbs, Nat.reducePow, Nat.reduceLT, Nat.reduceLeDiff, sizeLine_eq, Int.reduceMul, Int.reduceAdd, Int.reduceSub, Bool.not_eq_true', decide_eq_false_iff_not, scal, Bool.not_true, Bool.not_false, Bool.true_eq_false, Bool.false_eq_true, ite_false, ite_true, if_true, if_false, ite_self, forall_const, atI0, atI1, atI2, atI3, ixN20, ixN21, upd_same, upd_upd, Int.zero_add, CMul, Int.reduceSub, Nat.le_refl, Nat.zero_le, or_true, true_or, exists_const, Int.sub_zero, p1, T.cl_Lock, T.n_Lock_waiting, T.n_Lock_holder, lockF, rNeD, rNotInD])
        refine ⟨_, Im.dp _ _ i1, _, Im.dp _ _ iw', wD_shaped _, wD_shaped _, ?_⟩
        rw [show PyData.eqv (hD (some h)) (wD w') = decide (h = w') from wD_eqv _ _]
        have ea : (¬ (h ≠ w' ∧ w' ∉ (freeS S w'.tr (w'.2.2 - 1)).1.waiting)) → askS S w' = freeS S w'.tr (w'.2.2 - 1) := fun z => by unfold askS; rw [hS]; simp only []; rw [if_neg z]
        by_cases e1 : h = w'
        · have e := ea fun z => z.1 e1
          rw [e]
          simp only [decide_eq_true e1, Bool.true_eq_false, if_false]
          exact ⟨L1, hz, iz, bt⟩
        · simp only [decide_eq_false e1, if_true]
          have hsh : SeqAt.shaped (.list ((freeS S w'.tr (w'.2.2 - 1)).1.waiting.map wD)) = true := wDs_shaped _
          refine ⟨_, Im.dp _ _ iw', _, .lst (SqL.of l1') (ImAll.dp _ _ iw1), wD_shaped _, hsh, ?_⟩
          rw [wDs_any]
          have hl1n := iw1.len
          rw [List.length_map] at hl1n
          by_cases e2 : w' ∈ (freeS S w'.tr (w'.2.2 - 1)).1.waiting
          · have e := ea fun z => z.2 e2
            rw [e]
            simp only [decide_eq_true e2, Bool.true_eq_false, if_false]
            exact ⟨L1, hz, iz, bt⟩
          · have e : askS S w' = (⟨S.value, (freeS S w'.tr (w'.2.2 - 1)).1.turn, some h, (freeS S w'.tr (w'.2.2 - 1)).1.waiting ++ [w']⟩, (freeS S w'.tr (w'.2.2 - 1)).2) := by unfold askS; rw [hS]; simp only []; rw [if_pos ⟨e1, e2⟩]
            rw [e]
            simp only [decide_eq_false e2, if_true]
            refine ⟨tyL l1', ws1, l1', by omega, ⟨dx1, .ref qh, ws1 ++ [.ref a], ?_, imPut l1' i1, upd_same, ?_⟩, get_ne nql hz, imsPut l1' iz, bt.putN hl1⟩
            · rw [upd_ne nl1p.symm, p1, hv']
            · show ImAll _ (List.map wD (_ ++ [w'])) _
              rw [List.map_append]
              exact ims_app l1' iw1 iw'
      · rintro σ H2 ⟨rfl, M2, hz2, iz2, b2⟩
        (try simp only [ne_0_1, ne_0_1b, ne_0_5, ne_0_5b, ne_0_6, ne_0_6b, ne_0_7, ne_0_7b, ne_1_0, ne_1_0b, ne_1_2, ne_1_2b, ne_1_3, ne_1_3b, ne_1_4, ne_1_4b, ne_1_5, ne_1_5b, ne_1_6, ne_1_6b, ne_1_7, ne_1_7b, ne_1_8, ne_1_8b, ne_2_1, ne_2_1b, ne_2_5, ne_2_5b, ne_2_6, ne_2_6b, ne_2_7, ne_2_7b, ne_3_1, ne_3_1b, ne_3_5, ne_3_5b, ne_3_6, ne_3_6b, ne_3_7, ne_3_7b, ne_4_1, ne_4_1b, ne_4_5, ne_4_5b, ne_4_6, ne_4_6b, ne_4_7, ne_4_7b, ne_5_0, ne_5_0b, ne_5_1, ne_5_1b, ne_5_2, ne_5_2b, ne_5_3, ne_5_3b, ne_5_4, ne_5_4b, ne_5_6, ne_5_6b, ne_5_7, ne_5_7b, ne_5_8, ne_5_8b, ne_6_0, ne_6_0b, ne_6_1, ne_6_1b, ne_6_2, ne_6_2b, ne_6_3, ne_6_3b, ne_6_4, ne_6_4b, ne_6_5, ne_6_5b, ne_6_7, ne_6_7b, ne_6_8, ne_6_8b, ne_7_0, ne_7_0b, ne_7_1, ne_7_1b, ne_7_2, ne_7_2b, ne_7_3, ne_7_3b, ne_7_4, ne_7_4b, ne_7_5, ne_7_5b, ne_7_6, ne_7_6b, ne_7_8, ne_7_8b, ne_8_1, ne_8_1b, ne_8_5, ne_8_5b, ne_8_6, ne_8_6b, ne_8_7, ne_8_7b, cxOf, Cx.nox, Cx.wish, tSeq, tAsg, tC, gName, tIfS, tTest, tOp, tUn, rU, rI0, rI, tVar, tNext, tBreak, tRet, tRetN, tDrop, tLst, tTup, tCons, tNil, tCB, tB, tOr, tAnd, tNot, tIf, tCall, tFor_eq, tLc_eq, iRng1, iRng2, iList, iTup, gTup, gTupH, gUnlH, gCons, gNil, gSub, rSetL, rIxL, rIxT, rIxLH, rIxTH, rSlTS, rCatS, rTupS, rIsiH, rLenS, V.ty.injEq, tyS_non, tyS_bl, tyS_int, tyS_str, tyS_ref, tyO_l, tyO_t, tyO_d, tyO_dt, kit_ll, kit_tt, kit_bb, kit_ii, kit_ib, kit_bi, kit_nt, kit_it, kit_st, kit_bt, kit_lt, kit_dt, kit_ni, kit_si, kit_ti, kit_li, kit_di, kit_nb, kit_ns, kit_is, kit_bs, kit_ss, kit_ts, kit_ls, kit_ds, kit_dd, lenS_ref, lenO_l, lenO_t,  rAppend, tM1, rIxS, tSl, tPart, tNoPart, tBM, tBM0, tDGetS, sDPutS, tTruS, truO_l, truO_t, truS_ref, truS_non, truS_bl, truS_int, tFld, sFld, sFldAug, rAdd, tMeth, tMake, tMakeK, List.take_succ_cons, List.take_zero, List.drop_succ_cons, List.drop_zero, List.take_nil, tIsN, tNotN, tAndV, tOrV, tNotV, putF, List.lookup, List.any_cons, List.any_nil, Sum.inr.injEq, HO.ins.injEq, HO.dK.injEq, eq_self, beq_self_eq_true, beq_iff_eq, decide_true, decide_false, Bool.or_true, Bool.true_or, Bool.or_false, Bool.false_or, tYes, rEq, rNe, _root_.L2.start, wipe, List.map_cons, List.map_nil, List.length_cons, List.length_nil, List.append_nil, Nat.reduceAdd, Nat.reduceSub, List.replicate_succ, List.replicate_zero, List.cons_append, List.nil_append, List.getElem?_cons_zero, List.getElem?_cons_succ, List.set_cons_zero, List.set_cons_succ, Option.some.injEq, V.int.injEq, V.ref.injEq, V.bl.injEq, V.str.injEq, List.cons.injEq, HO.lst.injEq, HO.tup.injEq, and_assoc, and_true, true_and, exists_eq_left, exists_eq_left', exists_and_left, exists_eq, reduceCtorEq, false_and, and_false, or_false, false_or, exists_false, decide_eq_true_eq, CPow, CDivW, Int.reducePow, Int.reduceLT, Int.reduceLE, Int.reduceNeg, Int.reduceToNat, Int.reduceAbs, Nat.reducePow, Nat.reduceLT, Nat.reduceLeDiff, sizeLine_eq, Int.reduceMul, Int.reduceAdd, Int.reduceSub, Bool.not_eq_true', decide_eq_false_iff_not, scal, Bool.not_true, Bool.not_false, Bool.true_eq_false, Bool.false_eq_true, ite_false, ite_true, if_true, if_false, ite_self, forall_const, atI0, atI1, atI2, atI3, ixN20, ixN21, upd_same, upd_upd, Int.zero_add, CMul, Int.reduceSub, Nat.le_refl, Nat.zero_le, or_true, true_or, exists_const, Int.sub_zero])
        exact kk l1 q zs H2 M2 hl1 hq nql hz2 iz2 b2
def sp_Lock_finish (C : Addr) : Sp := fun vs H Q _ => ∃ (p l : Addr) (S : LS) (w : Who) (x : Int) (wv : V), vs = [.ref p, wv, .int x] ∧ LockAt C H p l S ∧ Im H (wD w) wv ∧ S.waiting.length ≤ 1000 ∧
  ∀ (l' q : Addr) (zs : List V) (H' : Hp), LockAt C H' p l' (finS S w x).1 → (l' = l ∨ H l' = none) → H q = none → q ≠ l' → H' q = some (.lst zs) → ImAll H' ((finS S w x).2.map wD) zs → Bt p l H H' → Q (.ref q) H'
theorem ok_Lock_finish (T : Txt K mg) : FnOk P w K mg base CX0 3 T.f_Lock_finish T.d_Lock_finish ["self", "who", "value"] (sp_Lock_finish T.C_Lock) := by
  refine Fun.ok T.F_Lock_finish sc_Lock_finish (fun vs H Q E h => ?_) (fun cdv A outer s H vs Q E hr h => ?_)
  · obtain ⟨p, l, S, w', x, wv, rfl, ⟨dx, hv, ws, hp, ih, hl, iw⟩, iwv, hlen, kk⟩ := h; rfl
  · obtain ⟨p, l, S, w', x, wv, rfl, ⟨dx, hv, ws, hp, ih, hl, iw⟩, iwv, hlen, kk⟩ := h
    have hu := hu_of hr
    refine ⟨_, (pss_cons (ps_if (pt_cmpR (op_neDK (K := K) rfl hr.units) (pe_fld (pv 0) rfl) (pv 1) (nomark _)) (pss_one (ps_ret (pe_lst pa_nil))) pss_nil)
      (pss_cons (ps_fld (pv 0) (pv 2) rfl)
      (pss_one (ps_ret (pe_meth (pv 0) T.cl_Lock T.m_Lock_free (ok_Lock_free T) (hr.mono (by decide)) T.b_Lock_free .nil pass0 (pa_cons (pe_ix ix_tupH (pv 1) pe_int (fun _ _ => rfl)) (pa_cons (pe_ix ix_tupH (pv 1) pe_int (fun _ _ => rfl)) pa_nil))))))), ?_⟩
    obtain ⟨a, tv, rfl, ha, itv⟩ := wD_at iwv
    have npa : a ≠ p := (ne_it hp ha).symm
    have npl : l ≠ p := (ne_il hp hl).symm
    (try simp only [ne_0_1, ne_0_1b, ne_0_5, ne_0_5b, ne_0_6, ne_0_6b, ne_0_7, ne_0_7b, ne_1_0, ne_1_0b, ne_1_2, ne_1_2b, ne_1_3, ne_1_3b, ne_1_4, ne_1_4b, ne_1_5, ne_1_5b, ne_1_6, ne_1_6b, ne_1_7, ne_1_7b, ne_1_8, ne_1_8b, ne_2_1, ne_2_1b, ne_2_5, ne_2_5b, ne_2_6, ne_2_6b, ne_2_7, ne_2_7b, ne_3_1, ne_3_1b, ne_3_5, ne_3_5b, ne_3_6, ne_3_6b, ne_3_7, ne_3_7b, ne_4_1, ne_4_1b, ne_4_5, ne_4_5b, ne_4_6, ne_4_6b, ne_4_7, ne_4_7b, ne_5_0, ne_5_0b, ne_5_1, ne_5_1b, ne_5_2, ne_5_2b, ne_5_3, ne_5_3b, ne_5_4, ne_5_4b, ne_5_6, ne_5_6b, ne_5_7, ne_5_7b, ne_5_8, ne_5_8b, ne_6_0, ne_6_0b, ne_6_1, ne_6_1b, ne_6_2, ne_6_2b, ne_6_3, ne_6_3b, ne_6_4, ne_6_4b, ne_6_5, ne_6_5b, ne_6_7, ne_6_7b, ne_6_8, ne_6_8b, ne_7_0, ne_7_0b, ne_7_1, ne_7_1b, ne_7_2, ne_7_2b, ne_7_3, ne_7_3b, ne_7_4, ne_7_4b, ne_7_5, ne_7_5b, ne_7_6, ne_7_6b, ne_7_8, ne_7_8b, ne_8_1, ne_8_1b, ne_8_5, ne_8_5b, ne_8_6, ne_8_6b, ne_8_7, ne_8_7b, cxOf, Cx.nox, Cx.wish, tSeq, tAsg, tC, gName, tIfS, tTest, tOp, tUn, rU, rI0, rI, tVar, tNext, tBreak, tRet, tRetN, tDrop, tLst, tTup, tCons, tNil, tCB, tB, tOr, tAnd, tNot, tIf, tCall, tFor_eq, tLc_eq, iRng1, iRng2, iList, iTup, gTup, gTupH, gUnlH, gCons, gNil, gSub, rSetL, rIxL, rIxT, rIxLH, rIxTH, rSlTS, rCatS, rTupS, rIsiH, rLenS, V.ty.injEq, tyS_non, tyS_bl, tyS_int, tyS_str, tyS_ref, tyO_l, tyO_t, tyO_d, tyO_dt, kit_ll, kit_tt, kit_bb, kit_ii, kit_ib, kit_bi, kit_nt, kit_it, kit_st, kit_bt, kit_lt, kit_dt, kit_ni, kit_si, kit_ti, kit_li, kit_di, kit_nb, kit_ns, kit_is, kit_bs, kit_ss, kit_ts, kit_ls, kit_ds, kit_dd, lenS_ref, lenO_l, lenO_t,  rAppend, tM1, rIxS, tSl, tPart, tNoPart, tBM, tBM0, tDGetS, sDPutS, tTruS, truO_l, truO_t, truS_ref, truS_non, truS_bl, truS_int, tFld, sFld, sFldAug, rAdd, tMeth, tMake, tMakeK, List.take_succ_cons, List.take_zero, List.drop_succ_cons, List.drop_zero, List.take_nil, tIsN, tNotN, tAndV, tOrV, tNotV, putF, List.lookup, List.any_cons, List.any_nil, Sum.inr.injEq, HO.ins.injEq, HO.dK.injEq, eq_self, beq_self_eq_true, beq_iff_eq, decide_true, decide_false, Bool.or_true, Bool.true_or, Bool.or_false, Bool.false_or, tYes, rEq, rNe, _root_.L2.start, wipe, List.map_cons, List.map_nil, List.length_cons, List.length_nil, List.append_nil, Nat.reduceAdd, Nat.reduceSub, List.replicate_succ, List.replicate_zero, List.cons_append, List.nil_append, List.getElem?_cons_zero, List.getElem?_cons_succ, List.set_cons_zero, List.set_cons_succ, Option.some.injEq, V.int.injEq, V.ref.injEq, V.bl.injEq, V.str.injEq, List.cons.injEq, HO.lst.injEq, HO.tup.injEq, and_assoc, and_true, true_and, exists_eq_left, exists_eq_left', exists_and_left, exists_eq, reduceCtorEq, false_and, and_false, or_false, false_or, exists_false, decide_eq_true_eq, CPow, CDivW, Int.reducePow, Int.reduceLT, Int.reduceLE, Int.reduceNeg, Int.reduceToNat, Int.reduceAbs, Nat.reducePow, Nat.reduceLT, Nat.reduceLeDiff, sizeLine_eq, Int.reduceMul, Int.reduceAdd, Int.reduceSub, Bool.not_eq_true', decide_eq_false_iff_not, scal, Bool.not_true, Bool.not_false, Bool.true_eq_false, Bool.false_eq_true, ite_false, ite_true, if_true, if_false, ite_self, forall_const, atI0, atI1, atI2, atI3, ixN20, ixN21, upd_same, upd_upd, Int.zero_add, CMul, Int.reduceSub, Nat.le_refl, Nat.zero_le, or_true, true_or, exists_const, Int.sub_zero, hp, T.cl_Lock, T.n_Lock_value, T.n_Lock_holder, lockF, rNeD])
    refine ⟨_, Im.dp _ _ ih, _, Im.dp _ _ iwv, hD_shaped _, wD_shaped _, ?_⟩
    rw [show PyData.eqv (hD S.holder) (wD w') = decide (S.holder = some w') from hD_eqv S.holder (some w')]
    by_cases e : S.holder = some w'
    · simp only [decide_eq_true e, Bool.true_eq_false, if_false]
      have ef : finS S w' x = freeS { S with value := x } w'.tr w'.2.2 := by unfold finS; rw [if_neg (fun z => z e)]
      rw [ef] at kk
      (try simp only [ne_0_1, ne_0_1b, ne_0_5, ne_0_5b, ne_0_6, ne_0_6b, ne_0_7, ne_0_7b, ne_1_0, ne_1_0b, ne_1_2, ne_1_2b, ne_1_3, ne_1_3b, ne_1_4, ne_1_4b, ne_1_5, ne_1_5b, ne_1_6, ne_1_6b, ne_1_7, ne_1_7b, ne_1_8, ne_1_8b, ne_2_1, ne_2_1b, ne_2_5, ne_2_5b, ne_2_6, ne_2_6b, ne_2_7, ne_2_7b, ne_3_1, ne_3_1b, ne_3_5, ne_3_5b, ne_3_6, ne_3_6b, ne_3_7, ne_3_7b, ne_4_1, ne_4_1b, ne_4_5, ne_4_5b, ne_4_6, ne_4_6b, ne_4_7, ne_4_7b, ne_5_0, ne_5_0b, ne_5_1, ne_5_1b, ne_5_2, ne_5_2b, ne_5_3, ne_5_3b, ne_5_4, ne_5_4b, ne_5_6, ne_5_6b, ne_5_7, ne_5_7b, ne_5_8, ne_5_8b, ne_6_0, ne_6_0b, ne_6_1, ne_6_1b, ne_6_2, ne_6_2b, ne_6_3, ne_6_3b, ne_6_4, ne_6_4b, ne_6_5, ne_6_5b, ne_6_7, ne_6_7b, ne_6_8, ne_6_8b, ne_7_0, ne_7_0b, ne_7_1, ne_7_1b, ne_7_2, ne_7_2b, ne_7_3, ne_7_3b, ne_7_4, ne_7_4b, ne_7_5, ne_7_5b, ne_7_6, ne_7_6b, ne_7_8, ne_7_8b, ne_8_1, ne_8_1b, ne_8_5, ne_8_5b, ne_8_6, ne_8_6b, ne_8_7, ne_8_7b, cxOf, Cx.nox, Cx.wish, tSeq, tAsg, tC, gName, tIfS, tTest, tOp, tUn, rU, rI0, rI, tVar, tNext, tBreak, tRet, tRetN, tDrop, tLst, tTup, tCons, tNil, tCB, tB, tOr, tAnd, tNot, tIf, tCall, tFor_eq, tLc_eq, iRng1, iRng2, iList, iTup, gTup, gTupH, gUnlH, gCons, gNil, gSub, rSetL, rIxL, rIxT, rIxLH, rIxTH, rSlTS, rCatS, rTupS, rIsiH, rLenS, V.ty.injEq, tyS_non, tyS_bl, tyS_int, tyS_str, tyS_ref, tyO_l, tyO_t, tyO_d, tyO_dt, kit_ll, kit_tt, kit_bb, kit_ii, kit_ib, kit_bi, kit_nt, kit_it, kit_st, kit_bt, kit_lt, kit_dt, kit_ni, kit_si, kit_ti, kit_li, kit_di, kit_nb, kit_ns, kit_is, kit_bs, kit_ss, kit_ts, kit_ls, kit_ds, kit_dd, lenS_ref, lenO_l, lenO_t,  rAppend, tM1, rIxS, tSl, tPart, tNoPart, tBM, tBM0, tDGetS, sDPutS, tTruS, truO_l, truO_t, truS_ref, truS_non, truS_bl, truS_int, tFld, sFld, sFldAug, rAdd, tMeth, tMake, tMakeK, List.take_succ_cons, List.take_zero, List.drop_succ_cons, List.drop_zero, List.take_nil, tIsN, tNotN, tAndV, tOrV, tNotV, putF, List.lookup, List.any_cons, List.any_nil, Sum.inr.injEq, HO.ins.injEq, HO.dK.injEq, eq_self, beq_self_eq_true, beq_iff_eq, decide_true, decide_false, Bool.or_true, Bool.true_or, Bool.or_false, Bool.false_or, tYes, rEq, rNe, _root_.L2.start, wipe, List.map_cons, List.map_nil, List.length_cons, List.length_nil, List.append_nil, Nat.reduceAdd, Nat.reduceSub, List.replicate_succ, List.replicate_zero, List.cons_append, List.nil_append, List.getElem?_cons_zero, List.getElem?_cons_succ, List.set_cons_zero, List.set_cons_succ, Option.some.injEq, V.int.injEq, V.ref.injEq, V.bl.injEq, V.str.injEq, List.cons.injEq, HO.lst.injEq, HO.tup.injEq, and_assoc, and_true, true_and, exists_eq_left, exists_eq_left', exists_and_left, exists_eq, reduceCtorEq, false_and, and_false, or_false, false_or, exists_false, decide_eq_true_eq, CPow, CDivW, Int.reducePow, Int.reduceLT, Int.reduceLE, Int.reduceNeg, Int.reduceToNat, Int.reduceAbs, Nat.reducePow, Nat.reduceLT, Nat.reduceLeDiff, sizeLine_eq, Int.reduceMul, Int.reduceAdd, Int.reduceSub, Bool.not_eq_true', decide_eq_false_iff_not, scal, Bool.not_true, Bool.not_false, Bool.true_eq_false, Bool.false_eq_true, ite_false, ite_true, if_true, if_false, ite_self, forall_const, atI0, atI1, atI2, atI3, ixN20, ixN21, upd_same, upd_upd, Int.zero_add, CMul, Int.reduceSub, Nat.le_refl, Nat.zero_le, or_true, true_or, exists_const, Int.sub_zero, hp, upd_ne npa, ha, lockF, T.cl_Lock, sp_Lock_free])
      refine ⟨l, { S with value := x }, ⟨dx, hv, ws, upd_same, imIns hp ih, get_ne npl hl, imsIns hp iw⟩, w'.tr, imIns hp itv, hlen, fun l1 q zs H1 L1 hl1 hq nql hz iz bt => ?_⟩
      exact kk l1 q zs H1 L1 (.inr (upd_none hl1).2) (upd_none hq).2 nql hz iz ((Bt.putP (Bt.refl _ _ _)).trans bt)
    · simp only [decide_eq_false e, if_true]
      have ef : finS S w' x = (S, []) := by unfold finS; rw [if_pos e]
      rw [ef] at kk
      intro q hq
      exact kk l q [] _ ⟨dx, hv, ws, get_new hq hp, imNew hq ih, get_new hq hl, imsNew hq iw⟩ (.inl rfl) hq (ne_of_none hl hq).symm upd_same im_nil (Bt.of (same_new hq))
/-- behind a deed -/
structure Deed (C : Addr) (H H' : Hp) (s p l d m q : Addr) (S : LS) : Prop where
  ex : ∃ (l' m' a b : Addr) (xs ys : List V) (ds : List Who) (S' : LS), Both C H' p l' d m' S' ∧ (l' = l ∨ H l' = none) ∧ (m' = m ∨ H m' = none) ∧ H' q = some (.lst [.ref a, .ref b]) ∧ H' a = some (.lst xs) ∧ H' b = some (.lst ys) ∧
    ImAll H' (ds.map wD) xs ∧ ImAll H' (ds.map wD) ys ∧ H a = none ∧ a ≠ q ∧ a ≠ l' ∧ a ≠ m' ∧ S'.waiting.length ≤ S.waiting.length + 1 ∧ S'.waiting.Nodup ∧ xs.length ≤ 1 ∧ (S.Inv → S'.Inv)
  new : H q = none
  fr : ∀ b o, H b = some o → b ≠ s → b ≠ p → b ≠ l → b ≠ d → b ≠ m → H' b = some o
def sp_law_deed (C : Addr) : Sp := fun vs H Q _ => ∃ (s p l d m : Addr) (S : LS), vs = [.ref p, .ref d, .ref s] ∧ Both C H p l d m S ∧ St2 H s ∧ l ≠ s ∧ m ≠ s ∧ S.waiting.length ≤ 900 ∧ S.waiting.Nodup ∧
  ∀ (q : Addr) (H' : Hp), Deed C H H' s p l d m q S → Q (.ref q) H'
theorem ok_law_deed (T : Txt K mg) : FnOk P w K mg base CX0 4 T.f_law_deed T.d_law_deed ["_law_lock", "_law_model_here", "_law_stream_here"] (sp_law_deed T.C_Lock) := by
  refine Fun.ok T.F_law_deed sc_law_deed (fun vs H Q E h => ?_) (fun cdv A outer s H vs Q E hr h => ?_)
  · obtain ⟨s0, p, l, d, m, S, rfl, B, hs, nls, nms, hlen, hnd, kk⟩ := h; rfl
  · obtain ⟨s0, p, l, d, m, S, rfl, B, hs, nls, nms, hlen, hnd, kk⟩ := h
    have hu := hu_of hr
    refine ⟨_, (pss_cons (ps_set (i := 3) sc_law_deed.nd rfl (Or.inl rfl) (pe_call (ok_law_who T) (hr.mono (by decide)) rfl T.g_law_who T.F_law_who.kp T.b_law_who .nil pass0 (pa_cons (pv 2) pa_nil)))
      (C8.pss_cut (ps_if (PW.pt (pw_and (pt_cmpR op_eq (pe_call (ok_law_next T) (hr.mono (by decide)) rfl T.g_law_next T.F_law_next.kp T.b_law_next .nil pass0 (pa_cons (pv 2) (pa_cons pe_int pa_nil))) pe_int (nomark _)) (pw_and1 (pt_cmp (pc_notN (pe_dgetS hu (pv 1) pe_str (fun _ _ => rfl))))))) (pss_one (ps_set (i := 3) sc_law_deed.nd rfl (Or.inl rfl) (pe_dgetS hu (pv 1) pe_str (fun _ _ => rfl)))) pss_nil)
      (pss_cons (ps_set (i := 4) sc_law_deed.nd rfl (Or.inl rfl) (pe_ix ix_tupH (pe_tup (pa_cons pe_str (pa_cons pe_str (pa_cons pe_str (pa_cons pe_str pa_nil))))) (pe_call (ok_law_next T) (hr.mono (by decide)) rfl T.g_law_next T.F_law_next.kp T.b_law_next .nil pass0 (pa_cons (pv 2) (pa_cons pe_int pa_nil))) (fun _ _ => rfl)))
      (pss_cons (ps_if (pt_cmpR op_eq (pv 4) pe_str (nomark _)) (pss_one (ps_ret (pe_lst (pa_cons (pe_meth (pv 0) T.cl_Lock T.m_Lock_ask (ok_Lock_ask T) (hr.mono (by decide)) T.b_Lock_ask .nil pass0 (pa_cons (pv 3) pa_nil)) (pa_cons (pe_call (ok_law_ask T) (hr.mono (by decide)) rfl T.g_law_ask T.F_law_ask.kp T.b_law_ask .nil pass0 (pa_cons (pv 1) (pa_cons (pv 3) pa_nil))) pa_nil))))) pss_nil)
      (pss_cons (ps_if (pt_cmpR op_eq (pv 4) pe_str (nomark _)) (pss_cons (ps_set (i := 5) sc_law_deed.nd rfl (Or.inl rfl) (pe_callB (call_max2 rfl) (by rfl) T.z_max (by decide +kernel) (pa_cons pe_int (pa_cons (pe_op op_add (pe_op op_sub (pe_ix ix_tupH (pv 3) pe_int (fun _ _ => rfl)) (pe_call (ok_law_next T) (hr.mono (by decide)) rfl T.g_law_next T.F_law_next.kp T.b_law_next .nil pass0 (pa_cons (pv 2) (pa_cons pe_int pa_nil)))) pe_int) pa_nil))))
      (pss_one (ps_ret (pe_lst (pa_cons (pe_meth (pv 0) T.cl_Lock T.m_Lock_free (ok_Lock_free T) (hr.mono (by decide)) T.b_Lock_free .nil pass0 (pa_cons (pe_ix ix_tupH (pv 3) pe_int (fun _ _ => rfl)) (pa_cons (pv 5) pa_nil))) (pa_cons (pe_call (ok_law_free T) (hr.mono (by decide)) rfl T.g_law_free T.F_law_free.kp T.b_law_free .nil pass0 (pa_cons (pv 1) (pa_cons (pe_ix ix_tupH (pv 3) pe_int (fun _ _ => rfl)) (pa_cons (pv 5) pa_nil)))) pa_nil)))))) pss_nil)
      (pss_cons (ps_set (i := 6) sc_law_deed.nd rfl (Or.inl rfl) (pe_ix ix_tupH (pe_tup (pa_cons (pe_op op_sub (pe_call (ok_law_next T) (hr.mono (by decide)) rfl T.g_law_next T.F_law_next.kp T.b_law_next .nil pass0 (pa_cons (pv 2) (pa_cons pe_int pa_nil))) pe_int) (pa_cons (pe_op op_sub (pe_call (ok_law_next T) (hr.mono (by decide)) rfl T.g_law_next T.F_law_next.kp T.b_law_next .nil pass0 (pa_cons (pv 2) (pa_cons (pe_op op_add (pe_op op_mul pe_int (pe_op op_pow pe_int pe_int)) pe_int) pa_nil))) (pe_op op_pow pe_int pe_int)) pa_nil))) (pe_call (ok_law_next T) (hr.mono (by decide)) rfl T.g_law_next T.F_law_next.kp T.b_law_next .nil pass0 (pa_cons (pv 2) (pa_cons pe_int pa_nil))) (fun _ _ => rfl)))
      (pss_one (ps_ret (pe_lst (pa_cons (pe_meth (pv 0) T.cl_Lock T.m_Lock_finish (ok_Lock_finish T) (hr.mono (by decide)) T.b_Lock_finish .nil pass0 (pa_cons (pv 3) (pa_cons (pv 6) pa_nil))) (pa_cons (pe_call (ok_law_finish T) (hr.mono (by decide)) rfl T.g_law_finish T.F_law_finish.kp T.b_law_finish .nil pass0 (pa_cons (pv 1) (pa_cons (pv 3) (pa_cons (pv 6) pa_nil)))) pa_nil))))))))))), ?_⟩
    have hps : p ≠ s0 := by
      obtain ⟨dx, hv, ws, hp, _⟩ := B.lk; obtain ⟨x, y, e⟩ := hs; exact ne_il hp e
    have hds : d ≠ s0 := by
      obtain ⟨hv, ws, hp, _⟩ := B.md; obtain ⟨x, y, e⟩ := hs; exact ne_dl hp e
    have keepB : ∀ {H' : Hp}, Gn s0 H H' → Both T.C_Lock H' p l d m S := fun g => ⟨B.lk.keep g.tk fun b o e h => g.but b o e (h.elim (fun z => z ▸ hps) fun z => z ▸ nls), B.md.keep g.tk fun b o e h => g.but b o e (h.elim (fun z => z ▸ hds) fun z => z ▸ nms), B.ne⟩
    (try simp only [ne_0_1, ne_0_1b, ne_0_5, ne_0_5b, ne_0_6, ne_0_6b, ne_0_7, ne_0_7b, ne_1_0, ne_1_0b, ne_1_2, ne_1_2b, ne_1_3, ne_1_3b, ne_1_4, ne_1_4b, ne_1_5, ne_1_5b, ne_1_6, ne_1_6b, ne_1_7, ne_1_7b, ne_1_8, ne_1_8b, ne_2_1, ne_2_1b, ne_2_5, ne_2_5b, ne_2_6, ne_2_6b, ne_2_7, ne_2_7b, ne_3_1, ne_3_1b, ne_3_5, ne_3_5b, ne_3_6, ne_3_6b, ne_3_7, ne_3_7b, ne_4_1, ne_4_1b, ne_4_5, ne_4_5b, ne_4_6, ne_4_6b, ne_4_7, ne_4_7b, ne_5_0, ne_5_0b, ne_5_1, ne_5_1b, ne_5_2, ne_5_2b, ne_5_3, ne_5_3b, ne_5_4, ne_5_4b, ne_5_6, ne_5_6b, ne_5_7, ne_5_7b, ne_5_8, ne_5_8b, ne_6_0, ne_6_0b, ne_6_1, ne_6_1b, ne_6_2, ne_6_2b, ne_6_3, ne_6_3b, ne_6_4, ne_6_4b, ne_6_5, ne_6_5b, ne_6_7, ne_6_7b, ne_6_8, ne_6_8b, ne_7_0, ne_7_0b, ne_7_1, ne_7_1b, ne_7_2, ne_7_2b, ne_7_3, ne_7_3b, ne_7_4, ne_7_4b, ne_7_5, ne_7_5b, ne_7_6, ne_7_6b, ne_7_8, ne_7_8b, ne_8_1, ne_8_1b, ne_8_5, ne_8_5b, ne_8_6, ne_8_6b, ne_8_7, ne_8_7b, cxOf, Cx.nox, Cx.wish, tSeq, tAsg, tC, gName, tIfS, tTest, tOp, tUn, rU, rI0, rI, tVar, tNext, tBreak, tRet, tRetN, tDrop, tLst, tTup, tCons, tNil, tCB, tB, tOr, tAnd, tNot, tIf, tCall, tFor_eq, tLc_eq, iRng1, iRng2, iList, iTup, gTup, gTupH, gUnlH, gCons, gNil, gSub, rSetL, rIxL, rIxT, rIxLH, rIxTH, rSlTS, rCatS, rTupS, rIsiH, rLenS, V.ty.injEq, tyS_non, tyS_bl, tyS_int, tyS_str, tyS_ref, tyO_l, tyO_t, tyO_d, tyO_dt, kit_ll, kit_tt, kit_bb, kit_ii, kit_ib, kit_bi, kit_nt, kit_it, kit_st, kit_bt, kit_lt, kit_dt, kit_ni, kit_si, kit_ti, kit_li, kit_di, kit_nb, kit_ns, kit_is, kit_bs, kit_ss, kit_ts, kit_ls, kit_ds, kit_dd, lenS_ref, lenO_l, lenO_t,  rAppend, tM1, rIxS, tSl, tPart, tNoPart, tBM, tBM0, tDGetS, sDPutS, tTruS, truO_l, truO_t, truS_ref, truS_non, truS_bl, truS_int, tFld, sFld, sFldAug, rAdd, tMeth, tMake, tMakeK, List.take_succ_cons, List.take_zero, List.drop_succ_cons, List.drop_zero, List.take_nil, tIsN, tNotN, tAndV, tOrV, tNotV, putF, List.lookup, List.any_cons, List.any_nil, Sum.inr.injEq, HO.ins.injEq, HO.dK.injEq, eq_self, beq_self_eq_true, beq_iff_eq, decide_true, decide_false, Bool.or_true, Bool.true_or, Bool.or_false, Bool.false_or, tYes, rEq, rNe, _root_.L2.start, wipe, List.map_cons, List.map_nil, List.length_cons, List.length_nil, List.append_nil, Nat.reduceAdd, Nat.reduceSub, List.replicate_succ, List.replicate_zero, List.cons_append, List.nil_append, List.getElem?_cons_zero, List.getElem?_cons_succ, List.set_cons_zero, List.set_cons_succ, Option.some.injEq, V.int.injEq, V.ref.injEq, V.bl.injEq, V.str.injEq, List.cons.injEq, HO.lst.injEq, HO.tup.injEq, and_assoc, and_true, true_and, exists_eq_left, exists_eq_left', exists_and_left, exists_eq, reduceCtorEq, false_and, and_false, or_false, false_or, exists_false, decide_eq_true_eq, CPow, CDivW, Int.reducePow, Int.reduceLT, Int.reduceLE, Int.reduceNeg, Int.reduceToNat, Int.reduceAbs, Nat.reducePow, Nat.reduceLT, Nat.reduceLeDiff, sizeLine_eq, Int.reduceMul, Int.reduceAdd, Int.reduceSub, Bool.not_eq_true', decide_eq_false_iff_not, scal, Bool.not_true, Bool.not_false, Bool.true_eq_false, Bool.false_eq_true, ite_false, ite_true, if_true, if_false, ite_self, forall_const, atI0, atI1, atI2, atI3, ixN20, ixN21, upd_same, upd_upd, Int.zero_add, CMul, Int.reduceSub, Nat.le_refl, Nat.zero_le, or_true, true_or, exists_const, Int.sub_zero, sp_law_who])
    refine ⟨hs, fun v w H1 iv g1 => ?_⟩
    refine cutI (fun σ H' => ∃ (v : V) (w : Who), σ = [some (.ref p), some (.ref d), some (.ref s0), some v, none, none, none] ∧ Im H' (wD w) v ∧ Gn s0 H H') ?_ ?_
    · (try simp only [ne_0_1, ne_0_1b, ne_0_5, ne_0_5b, ne_0_6, ne_0_6b, ne_0_7, ne_0_7b, ne_1_0, ne_1_0b, ne_1_2, ne_1_2b, ne_1_3, ne_1_3b, ne_1_4, ne_1_4b, ne_1_5, ne_1_5b, ne_1_6, ne_1_6b, ne_1_7, ne_1_7b, ne_1_8, ne_1_8b, ne_2_1, ne_2_1b, ne_2_5, ne_2_5b, ne_2_6, ne_2_6b, ne_2_7, ne_2_7b, ne_3_1, ne_3_1b, ne_3_5, ne_3_5b, ne_3_6, ne_3_6b, ne_3_7, ne_3_7b, ne_4_1, ne_4_1b, ne_4_5, ne_4_5b, ne_4_6, ne_4_6b, ne_4_7, ne_4_7b, ne_5_0, ne_5_0b, ne_5_1, ne_5_1b, ne_5_2, ne_5_2b, ne_5_3, ne_5_3b, ne_5_4, ne_5_4b, ne_5_6, ne_5_6b, ne_5_7, ne_5_7b, ne_5_8, ne_5_8b, ne_6_0, ne_6_0b, ne_6_1, ne_6_1b, ne_6_2, ne_6_2b, ne_6_3, ne_6_3b, ne_6_4, ne_6_4b, ne_6_5, ne_6_5b, ne_6_7, ne_6_7b, ne_6_8, ne_6_8b, ne_7_0, ne_7_0b, ne_7_1, ne_7_1b, ne_7_2, ne_7_2b, ne_7_3, ne_7_3b, ne_7_4, ne_7_4b, ne_7_5, ne_7_5b, ne_7_6, ne_7_6b, ne_7_8, ne_7_8b, ne_8_1, ne_8_1b, ne_8_5, ne_8_5b, ne_8_6, ne_8_6b, ne_8_7, ne_8_7b, cxOf, Cx.nox, Cx.wish, tSeq, tAsg, tC, gName, tIfS, tTest, tOp, tUn, rU, rI0, rI, tVar, tNext, tBreak, tRet, tRetN, tDrop, tLst, tTup, tCons, tNil, tCB, tB, tOr, tAnd, tNot, tIf, tCall, tFor_eq, tLc_eq, iRng1, iRng2, iList, iTup, gTup, gTupH, gUnlH, gCons, gNil, gSub, rSetL, rIxL, rIxT, rIxLH, rIxTH, rSlTS, rCatS, rTupS, rIsiH, rLenS, V.ty.injEq, tyS_non, tyS_bl, tyS_int, tyS_str, tyS_ref, tyO_l, tyO_t, tyO_d, tyO_dt, kit_ll, kit_tt, kit_bb, kit_ii, kit_ib, kit_bi, kit_nt, kit_it, kit_st, kit_bt, kit_lt, kit_dt, kit_ni, kit_si, kit_ti, kit_li, kit_di, kit_nb, kit_ns, kit_is, kit_bs, kit_ss, kit_ts, kit_ls, kit_ds, kit_dd, lenS_ref, lenO_l, lenO_t,  rAppend, tM1, rIxS, tSl, tPart, tNoPart, tBM, tBM0, tDGetS, sDPutS, tTruS, truO_l, truO_t, truS_ref, truS_non, truS_bl, truS_int, tFld, sFld, sFldAug, rAdd, tMeth, tMake, tMakeK, List.take_succ_cons, List.take_zero, List.drop_succ_cons, List.drop_zero, List.take_nil, tIsN, tNotN, tAndV, tOrV, tNotV, putF, List.lookup, List.any_cons, List.any_nil, Sum.inr.injEq, HO.ins.injEq, HO.dK.injEq, eq_self, beq_self_eq_true, beq_iff_eq, decide_true, decide_false, Bool.or_true, Bool.true_or, Bool.or_false, Bool.false_or, tYes, rEq, rNe, _root_.L2.start, wipe, List.map_cons, List.map_nil, List.length_cons, List.length_nil, List.append_nil, Nat.reduceAdd, Nat.reduceSub, List.replicate_succ, List.replicate_zero, List.cons_append, List.nil_append, List.getElem?_cons_zero, List.getElem?_cons_succ, List.set_cons_zero, List.set_cons_succ, Option.some.injEq, V.int.injEq, V.ref.injEq, V.bl.injEq, V.str.injEq, List.cons.injEq, HO.lst.injEq, HO.tup.injEq, and_assoc, and_true, true_and, exists_eq_left, exists_eq_left', exists_and_left, exists_eq, reduceCtorEq, false_and, and_false, or_false, false_or, exists_false, decide_eq_true_eq, CPow, CDivW, Int.reducePow, Int.reduceLT, Int.reduceLE, Int.reduceNeg, Int.reduceToNat, Int.reduceAbs, Nat.reducePow, Nat.reduceLT, Nat.reduceLeDiff, sizeLine_eq, Int.reduceMul, Int.reduceAdd, Int.reduceSub, Bool.not_eq_true', decide_eq_false_iff_not, scal, Bool.not_true, Bool.not_false, Bool.true_eq_false, Bool.false_eq_true, ite_false, ite_true, if_true, if_false, ite_self, forall_const, atI0, atI1, atI2, atI3, ixN20, ixN21, upd_same, upd_upd, Int.zero_add, CMul, Int.reduceSub, Nat.le_refl, Nat.zero_le, or_true, true_or, exists_const, Int.sub_zero, sp_law_next])
      refine ⟨g1.st, fun a H2 a0 a1 g2 => ?_⟩
      have B2 := keepB (g1.trans g2)
      obtain ⟨hv, ws, hd, ih, _⟩ := B2.md
      by_cases e : a = 0
      · rw [if_pos e]
        (try simp only [ne_0_1, ne_0_1b, ne_0_5, ne_0_5b, ne_0_6, ne_0_6b, ne_0_7, ne_0_7b, ne_1_0, ne_1_0b, ne_1_2, ne_1_2b, ne_1_3, ne_1_3b, ne_1_4, ne_1_4b, ne_1_5, ne_1_5b, ne_1_6, ne_1_6b, ne_1_7, ne_1_7b, ne_1_8, ne_1_8b, ne_2_1, ne_2_1b, ne_2_5, ne_2_5b, ne_2_6, ne_2_6b, ne_2_7, ne_2_7b, ne_3_1, ne_3_1b, ne_3_5, ne_3_5b, ne_3_6, ne_3_6b, ne_3_7, ne_3_7b, ne_4_1, ne_4_1b, ne_4_5, ne_4_5b, ne_4_6, ne_4_6b, ne_4_7, ne_4_7b, ne_5_0, ne_5_0b, ne_5_1, ne_5_1b, ne_5_2, ne_5_2b, ne_5_3, ne_5_3b, ne_5_4, ne_5_4b, ne_5_6, ne_5_6b, ne_5_7, ne_5_7b, ne_5_8, ne_5_8b, ne_6_0, ne_6_0b, ne_6_1, ne_6_1b, ne_6_2, ne_6_2b, ne_6_3, ne_6_3b, ne_6_4, ne_6_4b, ne_6_5, ne_6_5b, ne_6_7, ne_6_7b, ne_6_8, ne_6_8b, ne_7_0, ne_7_0b, ne_7_1, ne_7_1b, ne_7_2, ne_7_2b, ne_7_3, ne_7_3b, ne_7_4, ne_7_4b, ne_7_5, ne_7_5b, ne_7_6, ne_7_6b, ne_7_8, ne_7_8b, ne_8_1, ne_8_1b, ne_8_5, ne_8_5b, ne_8_6, ne_8_6b, ne_8_7, ne_8_7b, cxOf, Cx.nox, Cx.wish, tSeq, tAsg, tC, gName, tIfS, tTest, tOp, tUn, rU, rI0, rI, tVar, tNext, tBreak, tRet, tRetN, tDrop, tLst, tTup, tCons, tNil, tCB, tB, tOr, tAnd, tNot, tIf, tCall, tFor_eq, tLc_eq, iRng1, iRng2, iList, iTup, gTup, gTupH, gUnlH, gCons, gNil, gSub, rSetL, rIxL, rIxT, rIxLH, rIxTH, rSlTS, rCatS, rTupS, rIsiH, rLenS, V.ty.injEq, tyS_non, tyS_bl, tyS_int, tyS_str, tyS_ref, tyO_l, tyO_t, tyO_d, tyO_dt, kit_ll, kit_tt, kit_bb, kit_ii, kit_ib, kit_bi, kit_nt, kit_it, kit_st, kit_bt, kit_lt, kit_dt, kit_ni, kit_si, kit_ti, kit_li, kit_di, kit_nb, kit_ns, kit_is, kit_bs, kit_ss, kit_ts, kit_ls, kit_ds, kit_dd, lenS_ref, lenO_l, lenO_t,  rAppend, tM1, rIxS, tSl, tPart, tNoPart, tBM, tBM0, tDGetS, sDPutS, tTruS, truO_l, truO_t, truS_ref, truS_non, truS_bl, truS_int, tFld, sFld, sFldAug, rAdd, tMeth, tMake, tMakeK, List.take_succ_cons, List.take_zero, List.drop_succ_cons, List.drop_zero, List.take_nil, tIsN, tNotN, tAndV, tOrV, tNotV, putF, List.lookup, List.any_cons, List.any_nil, Sum.inr.injEq, HO.ins.injEq, HO.dK.injEq, eq_self, beq_self_eq_true, beq_iff_eq, decide_true, decide_false, Bool.or_true, Bool.true_or, Bool.or_false, Bool.false_or, tYes, rEq, rNe, _root_.L2.start, wipe, List.map_cons, List.map_nil, List.length_cons, List.length_nil, List.append_nil, Nat.reduceAdd, Nat.reduceSub, List.replicate_succ, List.replicate_zero, List.cons_append, List.nil_append, List.getElem?_cons_zero, List.getElem?_cons_succ, List.set_cons_zero, List.set_cons_succ, Option.some.injEq, V.int.injEq, V.ref.injEq, V.bl.injEq, V.str.injEq, List.cons.injEq, HO.lst.injEq, HO.tup.injEq, and_assoc, and_true, true_and, exists_eq_left, exists_eq_left', exists_and_left, exists_eq, reduceCtorEq, false_and, and_false, or_false, false_or, exists_false, decide_eq_true_eq, CPow, CDivW, Int.reducePow, Int.reduceLT, Int.reduceLE, Int.reduceNeg, Int.reduceToNat, Int.reduceAbs, Nat.reducePow, Nat.reduceLT, Nat.reduceLeDiff, sizeLine_eq, Int.reduceMul, Int.reduceAdd, Int.reduceSub, Bool.not_eq_true', decide_eq_false_iff_not, scal, Bool.not_true, Bool.not_false, Bool.true_eq_false, Bool.false_eq_true, ite_false, ite_true, if_true, if_false, ite_self, forall_const, atI0, atI1, atI2, atI3, ixN20, ixN21, upd_same, upd_upd, Int.zero_add, CMul, Int.reduceSub, Nat.le_refl, Nat.zero_le, or_true, true_or, exists_const, Int.sub_zero, hd, modF_holder])
        cases hS : S.holder with
        | none =>
          rw [hS] at ih
          have := hD_none ih
          subst this
          (try simp only [ne_0_1, ne_0_1b, ne_0_5, ne_0_5b, ne_0_6, ne_0_6b, ne_0_7, ne_0_7b, ne_1_0, ne_1_0b, ne_1_2, ne_1_2b, ne_1_3, ne_1_3b, ne_1_4, ne_1_4b, ne_1_5, ne_1_5b, ne_1_6, ne_1_6b, ne_1_7, ne_1_7b, ne_1_8, ne_1_8b, ne_2_1, ne_2_1b, ne_2_5, ne_2_5b, ne_2_6, ne_2_6b, ne_2_7, ne_2_7b, ne_3_1, ne_3_1b, ne_3_5, ne_3_5b, ne_3_6, ne_3_6b, ne_3_7, ne_3_7b, ne_4_1, ne_4_1b, ne_4_5, ne_4_5b, ne_4_6, ne_4_6b, ne_4_7, ne_4_7b, ne_5_0, ne_5_0b, ne_5_1, ne_5_1b, ne_5_2, ne_5_2b, ne_5_3, ne_5_3b, ne_5_4, ne_5_4b, ne_5_6, ne_5_6b, ne_5_7, ne_5_7b, ne_5_8, ne_5_8b, ne_6_0, ne_6_0b, ne_6_1, ne_6_1b, ne_6_2, ne_6_2b, ne_6_3, ne_6_3b, ne_6_4, ne_6_4b, ne_6_5, ne_6_5b, ne_6_7, ne_6_7b, ne_6_8, ne_6_8b, ne_7_0, ne_7_0b, ne_7_1, ne_7_1b, ne_7_2, ne_7_2b, ne_7_3, ne_7_3b, ne_7_4, ne_7_4b, ne_7_5, ne_7_5b, ne_7_6, ne_7_6b, ne_7_8, ne_7_8b, ne_8_1, ne_8_1b, ne_8_5, ne_8_5b, ne_8_6, ne_8_6b, ne_8_7, ne_8_7b, cxOf, Cx.nox, Cx.wish, tSeq, tAsg, tC, gName, tIfS, tTest, tOp, tUn, rU, rI0, rI, tVar, tNext, tBreak, tRet, tRetN, tDrop, tLst, tTup, tCons, tNil, tCB, tB, tOr, tAnd, tNot, tIf, tCall, tFor_eq, tLc_eq, iRng1, iRng2, iList, iTup, gTup, gTupH, gUnlH, gCons, gNil, gSub, rSetL, rIxL, rIxT, rIxLH, rIxTH, rSlTS, rCatS, rTupS, rIsiH, rLenS, V.ty.injEq, tyS_non, tyS_bl, tyS_int, tyS_str, tyS_ref, tyO_l, tyO_t, tyO_d, tyO_dt, kit_ll, kit_tt, kit_bb, kit_ii, kit_ib, kit_bi, kit_nt, kit_it, kit_st, kit_bt, kit_lt, kit_dt, kit_ni, kit_si, kit_ti, kit_li, kit_di, kit_nb, kit_ns, kit_is, kit_bs, kit_ss, kit_ts, kit_ls, kit_ds, kit_dd, lenS_ref, lenO_l, lenO_t,  rAppend, tM1, rIxS, tSl, tPart, tNoPart, tBM, tBM0, tDGetS, sDPutS, tTruS, truO_l, truO_t, truS_ref, truS_non, truS_bl, truS_int, tFld, sFld, sFldAug, rAdd, tMeth, tMake, tMakeK, List.take_succ_cons, List.take_zero, List.drop_succ_cons, List.drop_zero, List.take_nil, tIsN, tNotN, tAndV, tOrV, tNotV, putF, List.lookup, List.any_cons, List.any_nil, Sum.inr.injEq, HO.ins.injEq, HO.dK.injEq, eq_self, beq_self_eq_true, beq_iff_eq, decide_true, decide_false, Bool.or_true, Bool.true_or, Bool.or_false, Bool.false_or, tYes, rEq, rNe, _root_.L2.start, wipe, List.map_cons, List.map_nil, List.length_cons, List.length_nil, List.append_nil, Nat.reduceAdd, Nat.reduceSub, List.replicate_succ, List.replicate_zero, List.cons_append, List.nil_append, List.getElem?_cons_zero, List.getElem?_cons_succ, List.set_cons_zero, List.set_cons_succ, Option.some.injEq, V.int.injEq, V.ref.injEq, V.bl.injEq, V.str.injEq, List.cons.injEq, HO.lst.injEq, HO.tup.injEq, and_assoc, and_true, true_and, exists_eq_left, exists_eq_left', exists_and_left, exists_eq, reduceCtorEq, false_and, and_false, or_false, false_or, exists_false, decide_eq_true_eq, CPow, CDivW, Int.reducePow, Int.reduceLT, Int.reduceLE, Int.reduceNeg, Int.reduceToNat, Int.reduceAbs, Nat.reducePow, Nat.reduceLT, Nat.reduceLeDiff, sizeLine_eq, Int.reduceMul, Int.reduceAdd, Int.reduceSub, Bool.not_eq_true', decide_eq_false_iff_not, scal, Bool.not_true, Bool.not_false, Bool.true_eq_false, Bool.false_eq_true, ite_false, ite_true, if_true, if_false, ite_self, forall_const, atI0, atI1, atI2, atI3, ixN20, ixN21, upd_same, upd_upd, Int.zero_add, CMul, Int.reduceSub, Nat.le_refl, Nat.zero_le, or_true, true_or, exists_const, Int.sub_zero])
          exact ⟨_, g2.im iv, g1.trans g2⟩
        | some h =>
          rw [hS] at ih
          obtain ⟨qh, th, rfl, _⟩ := hD_ref ih
          (try simp only [ne_0_1, ne_0_1b, ne_0_5, ne_0_5b, ne_0_6, ne_0_6b, ne_0_7, ne_0_7b, ne_1_0, ne_1_0b, ne_1_2, ne_1_2b, ne_1_3, ne_1_3b, ne_1_4, ne_1_4b, ne_1_5, ne_1_5b, ne_1_6, ne_1_6b, ne_1_7, ne_1_7b, ne_1_8, ne_1_8b, ne_2_1, ne_2_1b, ne_2_5, ne_2_5b, ne_2_6, ne_2_6b, ne_2_7, ne_2_7b, ne_3_1, ne_3_1b, ne_3_5, ne_3_5b, ne_3_6, ne_3_6b, ne_3_7, ne_3_7b, ne_4_1, ne_4_1b, ne_4_5, ne_4_5b, ne_4_6, ne_4_6b, ne_4_7, ne_4_7b, ne_5_0, ne_5_0b, ne_5_1, ne_5_1b, ne_5_2, ne_5_2b, ne_5_3, ne_5_3b, ne_5_4, ne_5_4b, ne_5_6, ne_5_6b, ne_5_7, ne_5_7b, ne_5_8, ne_5_8b, ne_6_0, ne_6_0b, ne_6_1, ne_6_1b, ne_6_2, ne_6_2b, ne_6_3, ne_6_3b, ne_6_4, ne_6_4b, ne_6_5, ne_6_5b, ne_6_7, ne_6_7b, ne_6_8, ne_6_8b, ne_7_0, ne_7_0b, ne_7_1, ne_7_1b, ne_7_2, ne_7_2b, ne_7_3, ne_7_3b, ne_7_4, ne_7_4b, ne_7_5, ne_7_5b, ne_7_6, ne_7_6b, ne_7_8, ne_7_8b, ne_8_1, ne_8_1b, ne_8_5, ne_8_5b, ne_8_6, ne_8_6b, ne_8_7, ne_8_7b, cxOf, Cx.nox, Cx.wish, tSeq, tAsg, tC, gName, tIfS, tTest, tOp, tUn, rU, rI0, rI, tVar, tNext, tBreak, tRet, tRetN, tDrop, tLst, tTup, tCons, tNil, tCB, tB, tOr, tAnd, tNot, tIf, tCall, tFor_eq, tLc_eq, iRng1, iRng2, iList, iTup, gTup, gTupH, gUnlH, gCons, gNil, gSub, rSetL, rIxL, rIxT, rIxLH, rIxTH, rSlTS, rCatS, rTupS, rIsiH, rLenS, V.ty.injEq, tyS_non, tyS_bl, tyS_int, tyS_str, tyS_ref, tyO_l, tyO_t, tyO_d, tyO_dt, kit_ll, kit_tt, kit_bb, kit_ii, kit_ib, kit_bi, kit_nt, kit_it, kit_st, kit_bt, kit_lt, kit_dt, kit_ni, kit_si, kit_ti, kit_li, kit_di, kit_nb, kit_ns, kit_is, kit_bs, kit_ss, kit_ts, kit_ls, kit_ds, kit_dd, lenS_ref, lenO_l, lenO_t,  rAppend, tM1, rIxS, tSl, tPart, tNoPart, tBM, tBM0, tDGetS, sDPutS, tTruS, truO_l, truO_t, truS_ref, truS_non, truS_bl, truS_int, tFld, sFld, sFldAug, rAdd, tMeth, tMake, tMakeK, List.take_succ_cons, List.take_zero, List.drop_succ_cons, List.drop_zero, List.take_nil, tIsN, tNotN, tAndV, tOrV, tNotV, putF, List.lookup, List.any_cons, List.any_nil, Sum.inr.injEq, HO.ins.injEq, HO.dK.injEq, eq_self, beq_self_eq_true, beq_iff_eq, decide_true, decide_false, Bool.or_true, Bool.true_or, Bool.or_false, Bool.false_or, tYes, rEq, rNe, _root_.L2.start, wipe, List.map_cons, List.map_nil, List.length_cons, List.length_nil, List.append_nil, Nat.reduceAdd, Nat.reduceSub, List.replicate_succ, List.replicate_zero, List.cons_append, List.nil_append, List.getElem?_cons_zero, List.getElem?_cons_succ, List.set_cons_zero, List.set_cons_succ, Option.some.injEq, V.int.injEq, V.ref.injEq, V.bl.injEq, V.str.injEq, List.cons.injEq, HO.lst.injEq, HO.tup.injEq, and_assoc, and_true, true_and, exists_eq_left, exists_eq_left', exists_and_left, exists_eq, reduceCtorEq, false_and, and_false, or_false, false_or, exists_false, decide_eq_true_eq, CPow, CDivW, Int.reducePow, Int.reduceLT, Int.reduceLE, Int.reduceNeg, Int.reduceToNat, Int.reduceAbs, Nat.reducePow, Nat.reduceLT, Nat.reduceLeDiff, sizeLine_eq, Int.reduceMul, Int.reduceAdd, Int.reduceSub, Bool.not_eq_true', decide_eq_false_iff_not, scal, Bool.not_true, Bool.not_false, Bool.true_eq_false, Bool.false_eq_true, ite_false, ite_true, if_true, if_false, ite_self, forall_const, atI0, atI1, atI2, atI3, ixN20, ixN21, upd_same, upd_upd, Int.zero_add, CMul, Int.reduceSub, Nat.le_refl, Nat.zero_le, or_true, true_or, exists_const, Int.sub_zero, hd, modF_holder])
          exact ⟨_, ih, g1.trans g2⟩
      · rw [if_neg e]
        exact ⟨_, g2.im iv, g1.trans g2⟩
    · rintro σ H2 ⟨v, w, rfl, iv, g⟩
      (try simp only [ne_0_1, ne_0_1b, ne_0_5, ne_0_5b, ne_0_6, ne_0_6b, ne_0_7, ne_0_7b, ne_1_0, ne_1_0b, ne_1_2, ne_1_2b, ne_1_3, ne_1_3b, ne_1_4, ne_1_4b, ne_1_5, ne_1_5b, ne_1_6, ne_1_6b, ne_1_7, ne_1_7b, ne_1_8, ne_1_8b, ne_2_1, ne_2_1b, ne_2_5, ne_2_5b, ne_2_6, ne_2_6b, ne_2_7, ne_2_7b, ne_3_1, ne_3_1b, ne_3_5, ne_3_5b, ne_3_6, ne_3_6b, ne_3_7, ne_3_7b, ne_4_1, ne_4_1b, ne_4_5, ne_4_5b, ne_4_6, ne_4_6b, ne_4_7, ne_4_7b, ne_5_0, ne_5_0b, ne_5_1, ne_5_1b, ne_5_2, ne_5_2b, ne_5_3, ne_5_3b, ne_5_4, ne_5_4b, ne_5_6, ne_5_6b, ne_5_7, ne_5_7b, ne_5_8, ne_5_8b, ne_6_0, ne_6_0b, ne_6_1, ne_6_1b, ne_6_2, ne_6_2b, ne_6_3, ne_6_3b, ne_6_4, ne_6_4b, ne_6_5, ne_6_5b, ne_6_7, ne_6_7b, ne_6_8, ne_6_8b, ne_7_0, ne_7_0b, ne_7_1, ne_7_1b, ne_7_2, ne_7_2b, ne_7_3, ne_7_3b, ne_7_4, ne_7_4b, ne_7_5, ne_7_5b, ne_7_6, ne_7_6b, ne_7_8, ne_7_8b, ne_8_1, ne_8_1b, ne_8_5, ne_8_5b, ne_8_6, ne_8_6b, ne_8_7, ne_8_7b, cxOf, Cx.nox, Cx.wish, tSeq, tAsg, tC, gName, tIfS, tTest, tOp, tUn, rU, rI0, rI, tVar, tNext, tBreak, tRet, tRetN, tDrop, tLst, tTup, tCons, tNil, tCB, tB, tOr, tAnd, tNot, tIf, tCall, tFor_eq, tLc_eq, iRng1, iRng2, iList, iTup, gTup, gTupH, gUnlH, gCons, gNil, gSub, rSetL, rIxL, rIxT, rIxLH, rIxTH, rSlTS, rCatS, rTupS, rIsiH, rLenS, V.ty.injEq, tyS_non, tyS_bl, tyS_int, tyS_str, tyS_ref, tyO_l, tyO_t, tyO_d, tyO_dt, kit_ll, kit_tt, kit_bb, kit_ii, kit_ib, kit_bi, kit_nt, kit_it, kit_st, kit_bt, kit_lt, kit_dt, kit_ni, kit_si, kit_ti, kit_li, kit_di, kit_nb, kit_ns, kit_is, kit_bs, kit_ss, kit_ts, kit_ls, kit_ds, kit_dd, lenS_ref, lenO_l, lenO_t,  rAppend, tM1, rIxS, tSl, tPart, tNoPart, tBM, tBM0, tDGetS, sDPutS, tTruS, truO_l, truO_t, truS_ref, truS_non, truS_bl, truS_int, tFld, sFld, sFldAug, rAdd, tMeth, tMake, tMakeK, List.take_succ_cons, List.take_zero, List.drop_succ_cons, List.drop_zero, List.take_nil, tIsN, tNotN, tAndV, tOrV, tNotV, putF, List.lookup, List.any_cons, List.any_nil, Sum.inr.injEq, HO.ins.injEq, HO.dK.injEq, eq_self, beq_self_eq_true, beq_iff_eq, decide_true, decide_false, Bool.or_true, Bool.true_or, Bool.or_false, Bool.false_or, tYes, rEq, rNe, _root_.L2.start, wipe, List.map_cons, List.map_nil, List.length_cons, List.length_nil, List.append_nil, Nat.reduceAdd, Nat.reduceSub, List.replicate_succ, List.replicate_zero, List.cons_append, List.nil_append, List.getElem?_cons_zero, List.getElem?_cons_succ, List.set_cons_zero, List.set_cons_succ, Option.some.injEq, V.int.injEq, V.ref.injEq, V.bl.injEq, V.str.injEq, List.cons.injEq, HO.lst.injEq, HO.tup.injEq, and_assoc, and_true, true_and, exists_eq_left, exists_eq_left', exists_and_left, exists_eq, reduceCtorEq, false_and, and_false, or_false, false_or, exists_false, decide_eq_true_eq, CPow, CDivW, Int.reducePow, Int.reduceLT, Int.reduceLE, Int.reduceNeg, Int.reduceToNat, Int.reduceAbs, Nat.reducePow, Nat.reduceLT, Nat.reduceLeDiff, sizeLine_eq, Int.reduceMul, Int.reduceAdd, Int.reduceSub, Bool.not_eq_true', decide_eq_false_iff_not, scal, Bool.not_true, Bool.not_false, Bool.true_eq_false, Bool.false_eq_true, ite_false, ite_true, if_true, if_false, ite_self, forall_const, atI0, atI1, atI2, atI3, ixN20, ixN21, upd_same, upd_upd, Int.zero_add, CMul, Int.reduceSub, Nat.le_refl, Nat.zero_le, or_true, true_or, exists_const, Int.sub_zero, sp_law_next])
      intro c hc
      refine ⟨g.st.new hc, fun i H3 i0 i1 g3 => ?_⟩
      have hc3 := g3.at upd_same (St2.nn g.st hc)
      obtain ⟨x, hx, hm⟩ := atI_mem (xs := [V.str (Str.ofString "ask"), V.str (Str.ofString "ask"), V.str (Str.ofString "free"), V.str (Str.ofString "finish")]) i0 (by simpa using i1)
      refine ⟨_, hc3, x, hx, ?_⟩
      have gg := (g.new hc).trans g3
      have B3 := keepB gg
      have iv3 : Im H3 (wD w) v := g3.im (imNew hc iv)
      obtain ⟨dx, hv, ws, hp3, ih3, hl3, iw3⟩ := id B3.lk
      obtain ⟨hv', ws', hd3, ihd3, hm3, iwm3⟩ := id B3.md
      have npd : p ≠ d := ne_id hp3 hd3
      have npm : p ≠ m := ne_il hp3 hm3
      have nld : l ≠ d := (ne_dl hd3 hl3).symm
      obtain ⟨a, tv, rfl, ha, itv⟩ := wD_at iv3
      -- two lists out, one state
      have END : ∀ (H5 H6 H4 : Hp) (S' : LS) (ds : List Who) (l' m' q1 q2 : Addr) (z1 z2 : List V), Gn s0 H H4 → LockAt T.C_Lock H5 p l' S' → (l' = l ∨ H4 l' = none) → H4 q1 = none → q1 ≠ l' → H5 q1 = some (.lst z1) → ImAll H5 (ds.map wD) z1 → Bt p l H4 H5 →
          ModAt H6 d m' S' → (m' = m ∨ H5 m' = none) → H5 q2 = none → q2 ≠ m' → H6 q2 = some (.lst z2) → ImAll H6 (ds.map wD) z2 → Bt d m H5 H6 → S'.waiting.length ≤ S.waiting.length + 1 → S'.waiting.Nodup → ds.length ≤ 1 → (S.Inv → S'.Inv) →
          ∀ q, H6 q = none → Q (.ref q) (upd H6 q (.lst [.ref q1, .ref q2])) := by
        intro H5 H6 H4 S' ds l' m' q1 q2 z1 z2 g4 L5 hl5 hq1 nq1 hz1 iz1 b5 M6 hm6 hq2 nq2 hz2 iz2 b6 hl' hn' hds1 hI' q hq
        have B4 := keepB g4
        obtain ⟨dx4, hv4, ws4, hp4, ih4, hl4, iw4⟩ := id B4.lk
        obtain ⟨hv4', ws4', hd4, ihd4, hm4, iwm4⟩ := id B4.md
        obtain ⟨dx5, hv5, ws5, hp5, ih5, hl5', iw5⟩ := id L5
        obtain ⟨hv6, ws6, hd6, ihd6, hm6', iwm6⟩ := id M6
        have hd5 : H5 d = some (.dK (modF S.value S.turn hv4' m)) := b5.keep _ _ hd4 npd.symm nld.symm
        have hm5 : H5 m = some (.lst ws4') := b5.keep _ _ hm4 npm.symm B.ne.symm
        have nq1d : q1 ≠ d := fun z => by subst z; rw [hd5] at hz1; cases hz1
        have nq1m : q1 ≠ m := fun z => by subst z; rw [hm4] at hq1; cases hq1
        have nl'd : l' ≠ d := (ne_dl hd5 hl5').symm
        have nl'm : l' ≠ m := by
          rcases hl5 with z | z
          · rw [z]; exact B.ne
          · intro e; subst e; rw [hm4] at z; cases z
        have tk6 : Tk H5 H6 := BtD.tk b6 hd5 hm5
        have L6 : LockAt T.C_Lock H6 p l' S' := L5.keep tk6 fun b o e h => b6.keep b o e (h.elim (fun z => z ▸ npd) fun z => z ▸ nl'd) (h.elim (fun z => z ▸ npm) fun z => z ▸ nl'm)
        have hz16 : H6 q1 = some (.lst z1) := b6.keep _ _ hz1 nq1d nq1m
        have nl'm' : l' ≠ m' := by
          rcases hm6 with z | z
          · rw [z]; exact nl'm
          · intro e; subst e; rw [hl5'] at z; cases z
        have nq1m' : q1 ≠ m' := by
          rcases hm6 with z | z
          · rw [z]; exact nq1m
          · intro e; subst e; rw [hz1] at z; cases z
        refine kk q _ ⟨⟨l', m', q1, q2, z1, z2, ds, S', ⟨L6.same (same_new hq), M6.same (same_new hq), nl'm'⟩, ?_, ?_, upd_same, get_new hq hz16, get_new hq hz2, imsNew hq (ImAll.mono tk6 _ _ iz1), imsNew hq iz2, g4.none hq1, ne_of_none hz16 hq, nq1, nq1m', hl', hn', ?_, hI'⟩, g4.none (b5.non _ (b6.non _ hq)), fun b o e n1 n2 n3 n4 n5 => get_new hq (b6.keep b o (b5.keep b o (g4.but b o e n1) n2 n3) n4 n5)⟩
        · rcases hl5 with z | z
          · exact .inl z
          · exact .inr (g4.none z)
        · rcases hm6 with z | z
          · exact .inl z
          · exact .inr (g4.none (b5.non _ z))
        · have := iz1.len
          rw [List.length_map] at this
          omega
      have KM : ∀ (H4 H5 : Hp), Gn s0 H H4 → Bt p l H4 H5 → ModAt H5 d m S ∧ Tk H4 H5 := by
        intro H4 H5 g4 b5
        have B4 := keepB g4
        obtain ⟨dx4, hv4, ws4, hp4, ih4, hl4, iw4⟩ := id B4.lk
        have tk5 := Bt.tk b5 hp4 hl4
        exact ⟨B4.md.keep tk5 fun b o e h => b5.keep b o e (h.elim (fun z => z ▸ npd.symm) fun z => z ▸ npm.symm) (h.elim (fun z => z ▸ nld.symm) fun z => z ▸ B.ne.symm), tk5⟩
      simp only [List.mem_cons, List.not_mem_nil, or_false] at hm
      rcases hm with rfl | rfl | rfl | rfl
      · (try simp only [ne_0_1, ne_0_1b, ne_0_5, ne_0_5b, ne_0_6, ne_0_6b, ne_0_7, ne_0_7b, ne_1_0, ne_1_0b, ne_1_2, ne_1_2b, ne_1_3, ne_1_3b, ne_1_4, ne_1_4b, ne_1_5, ne_1_5b, ne_1_6, ne_1_6b, ne_1_7, ne_1_7b, ne_1_8, ne_1_8b, ne_2_1, ne_2_1b, ne_2_5, ne_2_5b, ne_2_6, ne_2_6b, ne_2_7, ne_2_7b, ne_3_1, ne_3_1b, ne_3_5, ne_3_5b, ne_3_6, ne_3_6b, ne_3_7, ne_3_7b, ne_4_1, ne_4_1b, ne_4_5, ne_4_5b, ne_4_6, ne_4_6b, ne_4_7, ne_4_7b, ne_5_0, ne_5_0b, ne_5_1, ne_5_1b, ne_5_2, ne_5_2b, ne_5_3, ne_5_3b, ne_5_4, ne_5_4b, ne_5_6, ne_5_6b, ne_5_7, ne_5_7b, ne_5_8, ne_5_8b, ne_6_0, ne_6_0b, ne_6_1, ne_6_1b, ne_6_2, ne_6_2b, ne_6_3, ne_6_3b, ne_6_4, ne_6_4b, ne_6_5, ne_6_5b, ne_6_7, ne_6_7b, ne_6_8, ne_6_8b, ne_7_0, ne_7_0b, ne_7_1, ne_7_1b, ne_7_2, ne_7_2b, ne_7_3, ne_7_3b, ne_7_4, ne_7_4b, ne_7_5, ne_7_5b, ne_7_6, ne_7_6b, ne_7_8, ne_7_8b, ne_8_1, ne_8_1b, ne_8_5, ne_8_5b, ne_8_6, ne_8_6b, ne_8_7, ne_8_7b, cxOf, Cx.nox, Cx.wish, tSeq, tAsg, tC, gName, tIfS, tTest, tOp, tUn, rU, rI0, rI, tVar, tNext, tBreak, tRet, tRetN, tDrop, tLst, tTup, tCons, tNil, tCB, tB, tOr, tAnd, tNot, tIf, tCall, tFor_eq, tLc_eq, iRng1, iRng2, iList, iTup, gTup, gTupH, gUnlH, gCons, gNil, gSub, rSetL, rIxL, rIxT, rIxLH, rIxTH, rSlTS, rCatS, rTupS, rIsiH, rLenS, V.ty.injEq, tyS_non, tyS_bl, tyS_int, tyS_str, tyS_ref, tyO_l, tyO_t, tyO_d, tyO_dt, kit_ll, kit_tt, kit_bb, kit_ii, kit_ib, kit_bi, kit_nt, kit_it, kit_st, kit_bt, kit_lt, kit_dt, kit_ni, kit_si, kit_ti, kit_li, kit_di, kit_nb, kit_ns, kit_is, kit_bs, kit_ss, kit_ts, kit_ls, kit_ds, kit_dd, lenS_ref, lenO_l, lenO_t,  rAppend, tM1, rIxS, tSl, tPart, tNoPart, tBM, tBM0, tDGetS, sDPutS, tTruS, truO_l, truO_t, truS_ref, truS_non, truS_bl, truS_int, tFld, sFld, sFldAug, rAdd, tMeth, tMake, tMakeK, List.take_succ_cons, List.take_zero, List.drop_succ_cons, List.drop_zero, List.take_nil, tIsN, tNotN, tAndV, tOrV, tNotV, putF, List.lookup, List.any_cons, List.any_nil, Sum.inr.injEq, HO.ins.injEq, HO.dK.injEq, eq_self, beq_self_eq_true, beq_iff_eq, decide_true, decide_false, Bool.or_true, Bool.true_or, Bool.or_false, Bool.false_or, tYes, rEq, rNe, _root_.L2.start, wipe, List.map_cons, List.map_nil, List.length_cons, List.length_nil, List.append_nil, Nat.reduceAdd, Nat.reduceSub, List.replicate_succ, List.replicate_zero, List.cons_append, List.nil_append, List.getElem?_cons_zero, List.getElem?_cons_succ, List.set_cons_zero, List.set_cons_succ, Option.some.injEq, V.int.injEq, V.ref.injEq, V.bl.injEq, V.str.injEq, List.cons.injEq, HO.lst.injEq, HO.tup.injEq, and_assoc, and_true, true_and, exists_eq_left, exists_eq_left', exists_and_left, exists_eq, reduceCtorEq, false_and, and_false, or_false, false_or, exists_false, decide_eq_true_eq, CPow, CDivW, Int.reducePow, Int.reduceLT, Int.reduceLE, Int.reduceNeg, Int.reduceToNat, Int.reduceAbs, Nat.reducePow, Nat.reduceLT, Nat.reduceLeDiff, sizeLine_eq, Int.reduceMul, Int.reduceAdd, Int.reduceSub, Bool.not_eq_true', decide_eq_false_iff_not, scal, Bool.not_true, Bool.not_false, Bool.true_eq_false, Bool.false_eq_true, ite_false, ite_true, if_true, if_false, ite_self, forall_const, atI0, atI1, atI2, atI3, ixN20, ixN21, upd_same, upd_upd, Int.zero_add, CMul, Int.reduceSub, Nat.le_refl, Nat.zero_le, or_true, true_or, exists_const, Int.sub_zero, hp3, lockF, ha, kd_fa, kd_na, kd_nf, sp_Lock_ask])
        refine ⟨l, S, B3.lk, w, iv3, by omega, fun l1 q1 z1 H5 L5 hl1 hq1 nq1 hz1 iz1 b5 => ?_⟩
        obtain ⟨M5, tk5⟩ := KM H3 H5 gg b5
        (try simp only [ne_0_1, ne_0_1b, ne_0_5, ne_0_5b, ne_0_6, ne_0_6b, ne_0_7, ne_0_7b, ne_1_0, ne_1_0b, ne_1_2, ne_1_2b, ne_1_3, ne_1_3b, ne_1_4, ne_1_4b, ne_1_5, ne_1_5b, ne_1_6, ne_1_6b, ne_1_7, ne_1_7b, ne_1_8, ne_1_8b, ne_2_1, ne_2_1b, ne_2_5, ne_2_5b, ne_2_6, ne_2_6b, ne_2_7, ne_2_7b, ne_3_1, ne_3_1b, ne_3_5, ne_3_5b, ne_3_6, ne_3_6b, ne_3_7, ne_3_7b, ne_4_1, ne_4_1b, ne_4_5, ne_4_5b, ne_4_6, ne_4_6b, ne_4_7, ne_4_7b, ne_5_0, ne_5_0b, ne_5_1, ne_5_1b, ne_5_2, ne_5_2b, ne_5_3, ne_5_3b, ne_5_4, ne_5_4b, ne_5_6, ne_5_6b, ne_5_7, ne_5_7b, ne_5_8, ne_5_8b, ne_6_0, ne_6_0b, ne_6_1, ne_6_1b, ne_6_2, ne_6_2b, ne_6_3, ne_6_3b, ne_6_4, ne_6_4b, ne_6_5, ne_6_5b, ne_6_7, ne_6_7b, ne_6_8, ne_6_8b, ne_7_0, ne_7_0b, ne_7_1, ne_7_1b, ne_7_2, ne_7_2b, ne_7_3, ne_7_3b, ne_7_4, ne_7_4b, ne_7_5, ne_7_5b, ne_7_6, ne_7_6b, ne_7_8, ne_7_8b, ne_8_1, ne_8_1b, ne_8_5, ne_8_5b, ne_8_6, ne_8_6b, ne_8_7, ne_8_7b, cxOf, Cx.nox, Cx.wish, tSeq, tAsg, tC, gName, tIfS, tTest, tOp, tUn, rU, rI0, rI, tVar, tNext, tBreak, tRet, tRetN, tDrop, tLst, tTup, tCons, tNil, tCB, tB, tOr, tAnd, tNot, tIf, tCall, tFor_eq, tLc_eq, iRng1, iRng2, iList, iTup, gTup, gTupH, gUnlH, gCons, gNil, gSub, rSetL, rIxL, rIxT, rIxLH, rIxTH, rSlTS, rCatS, rTupS, rIsiH, rLenS, V.ty.injEq, tyS_non, tyS_bl, tyS_int, tyS_str, tyS_ref, tyO_l, tyO_t, tyO_d, tyO_dt, kit_ll, kit_tt, kit_bb, kit_ii, kit_ib, kit_bi, kit_nt, kit_it, kit_st, kit_bt, kit_lt, kit_dt, kit_ni, kit_si, kit_ti, kit_li, kit_di, kit_nb, kit_ns, kit_is, kit_bs, kit_ss, kit_ts, kit_ls, kit_ds, kit_dd, lenS_ref, lenO_l, lenO_t,  rAppend, tM1, rIxS, tSl, tPart, tNoPart, tBM, tBM0, tDGetS, sDPutS, tTruS, truO_l, truO_t, truS_ref, truS_non, truS_bl, truS_int, tFld, sFld, sFldAug, rAdd, tMeth, tMake, tMakeK, List.take_succ_cons, List.take_zero, List.drop_succ_cons, List.drop_zero, List.take_nil, tIsN, tNotN, tAndV, tOrV, tNotV, putF, List.lookup, List.any_cons, List.any_nil, Sum.inr.injEq, HO.ins.injEq, HO.dK.injEq, eq_self, beq_self_eq_true, beq_iff_eq, decide_true, decide_false, Bool.or_true, Bool.true_or, Bool.or_false, Bool.false_or, tYes, rEq, rNe, _root_.L2.start, wipe, List.map_cons, List.map_nil, List.length_cons, List.length_nil, List.append_nil, Nat.reduceAdd, Nat.reduceSub, List.replicate_succ, List.replicate_zero, List.cons_append, List.nil_append, List.getElem?_cons_zero, List.getElem?_cons_succ, List.set_cons_zero, List.set_cons_succ, Option.some.injEq, V.int.injEq, V.ref.injEq, V.bl.injEq, V.str.injEq, List.cons.injEq, HO.lst.injEq, HO.tup.injEq, and_assoc, and_true, true_and, exists_eq_left, exists_eq_left', exists_and_left, exists_eq, reduceCtorEq, false_and, and_false, or_false, false_or, exists_false, decide_eq_true_eq, CPow, CDivW, Int.reducePow, Int.reduceLT, Int.reduceLE, Int.reduceNeg, Int.reduceToNat, Int.reduceAbs, Nat.reducePow, Nat.reduceLT, Nat.reduceLeDiff, sizeLine_eq, Int.reduceMul, Int.reduceAdd, Int.reduceSub, Bool.not_eq_true', decide_eq_false_iff_not, scal, Bool.not_true, Bool.not_false, Bool.true_eq_false, Bool.false_eq_true, ite_false, ite_true, if_true, if_false, ite_self, forall_const, atI0, atI1, atI2, atI3, ixN20, ixN21, upd_same, upd_upd, Int.zero_add, CMul, Int.reduceSub, Nat.le_refl, Nat.zero_le, or_true, true_or, exists_const, Int.sub_zero, sp_law_ask])
        exact ⟨m, S, M5, w, Im.mono tk5 _ _ iv3, by omega, hnd, fun m1 q2 z2 H6 M6 hm1 hq2 nq2 hz2 iz2 b6 => END H5 H6 H3 _ _ l1 m1 q1 q2 z1 z2 gg L5 (.inr hl1) hq1 nq1 hz1 iz1 b5 M6 (.inr hm1) hq2 nq2 hz2 iz2 b6 (askS_len _ _) (askS_nd _ _ hnd) (askS_out _ _) (askS_inv _)⟩
      · (try simp only [ne_0_1, ne_0_1b, ne_0_5, ne_0_5b, ne_0_6, ne_0_6b, ne_0_7, ne_0_7b, ne_1_0, ne_1_0b, ne_1_2, ne_1_2b, ne_1_3, ne_1_3b, ne_1_4, ne_1_4b, ne_1_5, ne_1_5b, ne_1_6, ne_1_6b, ne_1_7, ne_1_7b, ne_1_8, ne_1_8b, ne_2_1, ne_2_1b, ne_2_5, ne_2_5b, ne_2_6, ne_2_6b, ne_2_7, ne_2_7b, ne_3_1, ne_3_1b, ne_3_5, ne_3_5b, ne_3_6, ne_3_6b, ne_3_7, ne_3_7b, ne_4_1, ne_4_1b, ne_4_5, ne_4_5b, ne_4_6, ne_4_6b, ne_4_7, ne_4_7b, ne_5_0, ne_5_0b, ne_5_1, ne_5_1b, ne_5_2, ne_5_2b, ne_5_3, ne_5_3b, ne_5_4, ne_5_4b, ne_5_6, ne_5_6b, ne_5_7, ne_5_7b, ne_5_8, ne_5_8b, ne_6_0, ne_6_0b, ne_6_1, ne_6_1b, ne_6_2, ne_6_2b, ne_6_3, ne_6_3b, ne_6_4, ne_6_4b, ne_6_5, ne_6_5b, ne_6_7, ne_6_7b, ne_6_8, ne_6_8b, ne_7_0, ne_7_0b, ne_7_1, ne_7_1b, ne_7_2, ne_7_2b, ne_7_3, ne_7_3b, ne_7_4, ne_7_4b, ne_7_5, ne_7_5b, ne_7_6, ne_7_6b, ne_7_8, ne_7_8b, ne_8_1, ne_8_1b, ne_8_5, ne_8_5b, ne_8_6, ne_8_6b, ne_8_7, ne_8_7b, cxOf, Cx.nox, Cx.wish, tSeq, tAsg, tC, gName, tIfS, tTest, tOp, tUn, rU, rI0, rI, tVar, tNext, tBreak, tRet, tRetN, tDrop, tLst, tTup, tCons, tNil, tCB, tB, tOr, tAnd, tNot, tIf, tCall, tFor_eq, tLc_eq, iRng1, iRng2, iList, iTup, gTup, gTupH, gUnlH, gCons, gNil, gSub, rSetL, rIxL, rIxT, rIxLH, rIxTH, rSlTS, rCatS, rTupS, rIsiH, rLenS, V.ty.injEq, tyS_non, tyS_bl, tyS_int, tyS_str, tyS_ref, tyO_l, tyO_t, tyO_d, tyO_dt, kit_ll, kit_tt, kit_bb, kit_ii, kit_ib, kit_bi, kit_nt, kit_it, kit_st, kit_bt, kit_lt, kit_dt, kit_ni, kit_si, kit_ti, kit_li, kit_di, kit_nb, kit_ns, kit_is, kit_bs, kit_ss, kit_ts, kit_ls, kit_ds, kit_dd, lenS_ref, lenO_l, lenO_t,  rAppend, tM1, rIxS, tSl, tPart, tNoPart, tBM, tBM0, tDGetS, sDPutS, tTruS, truO_l, truO_t, truS_ref, truS_non, truS_bl, truS_int, tFld, sFld, sFldAug, rAdd, tMeth, tMake, tMakeK, List.take_succ_cons, List.take_zero, List.drop_succ_cons, List.drop_zero, List.take_nil, tIsN, tNotN, tAndV, tOrV, tNotV, putF, List.lookup, List.any_cons, List.any_nil, Sum.inr.injEq, HO.ins.injEq, HO.dK.injEq, eq_self, beq_self_eq_true, beq_iff_eq, decide_true, decide_false, Bool.or_true, Bool.true_or, Bool.or_false, Bool.false_or, tYes, rEq, rNe, _root_.L2.start, wipe, List.map_cons, List.map_nil, List.length_cons, List.length_nil, List.append_nil, Nat.reduceAdd, Nat.reduceSub, List.replicate_succ, List.replicate_zero, List.cons_append, List.nil_append, List.getElem?_cons_zero, List.getElem?_cons_succ, List.set_cons_zero, List.set_cons_succ, Option.some.injEq, V.int.injEq, V.ref.injEq, V.bl.injEq, V.str.injEq, List.cons.injEq, HO.lst.injEq, HO.tup.injEq, and_assoc, and_true, true_and, exists_eq_left, exists_eq_left', exists_and_left, exists_eq, reduceCtorEq, false_and, and_false, or_false, false_or, exists_false, decide_eq_true_eq, CPow, CDivW, Int.reducePow, Int.reduceLT, Int.reduceLE, Int.reduceNeg, Int.reduceToNat, Int.reduceAbs, Nat.reducePow, Nat.reduceLT, Nat.reduceLeDiff, sizeLine_eq, Int.reduceMul, Int.reduceAdd, Int.reduceSub, Bool.not_eq_true', decide_eq_false_iff_not, scal, Bool.not_true, Bool.not_false, Bool.true_eq_false, Bool.false_eq_true, ite_false, ite_true, if_true, if_false, ite_self, forall_const, atI0, atI1, atI2, atI3, ixN20, ixN21, upd_same, upd_upd, Int.zero_add, CMul, Int.reduceSub, Nat.le_refl, Nat.zero_le, or_true, true_or, exists_const, Int.sub_zero, hp3, lockF, ha, kd_fa, kd_na, kd_nf, sp_Lock_ask])
        refine ⟨l, S, B3.lk, w, iv3, by omega, fun l1 q1 z1 H5 L5 hl1 hq1 nq1 hz1 iz1 b5 => ?_⟩
        obtain ⟨M5, tk5⟩ := KM H3 H5 gg b5
        (try simp only [ne_0_1, ne_0_1b, ne_0_5, ne_0_5b, ne_0_6, ne_0_6b, ne_0_7, ne_0_7b, ne_1_0, ne_1_0b, ne_1_2, ne_1_2b, ne_1_3, ne_1_3b, ne_1_4, ne_1_4b, ne_1_5, ne_1_5b, ne_1_6, ne_1_6b, ne_1_7, ne_1_7b, ne_1_8, ne_1_8b, ne_2_1, ne_2_1b, ne_2_5, ne_2_5b, ne_2_6, ne_2_6b, ne_2_7, ne_2_7b, ne_3_1, ne_3_1b, ne_3_5, ne_3_5b, ne_3_6, ne_3_6b, ne_3_7, ne_3_7b, ne_4_1, ne_4_1b, ne_4_5, ne_4_5b, ne_4_6, ne_4_6b, ne_4_7, ne_4_7b, ne_5_0, ne_5_0b, ne_5_1, ne_5_1b, ne_5_2, ne_5_2b, ne_5_3, ne_5_3b, ne_5_4, ne_5_4b, ne_5_6, ne_5_6b, ne_5_7, ne_5_7b, ne_5_8, ne_5_8b, ne_6_0, ne_6_0b, ne_6_1, ne_6_1b, ne_6_2, ne_6_2b, ne_6_3, ne_6_3b, ne_6_4, ne_6_4b, ne_6_5, ne_6_5b, ne_6_7, ne_6_7b, ne_6_8, ne_6_8b, ne_7_0, ne_7_0b, ne_7_1, ne_7_1b, ne_7_2, ne_7_2b, ne_7_3, ne_7_3b, ne_7_4, ne_7_4b, ne_7_5, ne_7_5b, ne_7_6, ne_7_6b, ne_7_8, ne_7_8b, ne_8_1, ne_8_1b, ne_8_5, ne_8_5b, ne_8_6, ne_8_6b, ne_8_7, ne_8_7b, cxOf, Cx.nox, Cx.wish, tSeq, tAsg, tC, gName, tIfS, tTest, tOp, tUn, rU, rI0, rI, tVar, tNext, tBreak, tRet, tRetN, tDrop, tLst, tTup, tCons, tNil, tCB, tB, tOr, tAnd, tNot, tIf, tCall, tFor_eq, tLc_eq, iRng1, iRng2, iList, iTup, gTup, gTupH, gUnlH, gCons, gNil, gSub, rSetL, rIxL, rIxT, rIxLH, rIxTH, rSlTS, rCatS, rTupS, rIsiH, rLenS, V.ty.injEq, tyS_non, tyS_bl, tyS_int, tyS_str, tyS_ref, tyO_l, tyO_t, tyO_d, tyO_dt, kit_ll, kit_tt, kit_bb, kit_ii, kit_ib, kit_bi, kit_nt, kit_it, kit_st, kit_bt, kit_lt, kit_dt, kit_ni, kit_si, kit_ti, kit_li, kit_di, kit_nb, kit_ns, kit_is, kit_bs, kit_ss, kit_ts, kit_ls, kit_ds, kit_dd, lenS_ref, lenO_l, lenO_t,  rAppend, tM1, rIxS, tSl, tPart, tNoPart, tBM, tBM0, tDGetS, sDPutS, tTruS, truO_l, truO_t, truS_ref, truS_non, truS_bl, truS_int, tFld, sFld, sFldAug, rAdd, tMeth, tMake, tMakeK, List.take_succ_cons, List.take_zero, List.drop_succ_cons, List.drop_zero, List.take_nil, tIsN, tNotN, tAndV, tOrV, tNotV, putF, List.lookup, List.any_cons, List.any_nil, Sum.inr.injEq, HO.ins.injEq, HO.dK.injEq, eq_self, beq_self_eq_true, beq_iff_eq, decide_true, decide_false, Bool.or_true, Bool.true_or, Bool.or_false, Bool.false_or, tYes, rEq, rNe, _root_.L2.start, wipe, List.map_cons, List.map_nil, List.length_cons, List.length_nil, List.append_nil, Nat.reduceAdd, Nat.reduceSub, List.replicate_succ, List.replicate_zero, List.cons_append, List.nil_append, List.getElem?_cons_zero, List.getElem?_cons_succ, List.set_cons_zero, List.set_cons_succ, Option.some.injEq, V.int.injEq, V.ref.injEq, V.bl.injEq, V.str.injEq, List.cons.injEq, HO.lst.injEq, HO.tup.injEq, and_assoc, and_true, true_and, exists_eq_left, exists_eq_left', exists_and_left, exists_eq, reduceCtorEq, false_and, and_false, or_false, false_or, exists_false, decide_eq_true_eq, CPow, CDivW, Int.reducePow, Int.reduceLT, Int.reduceLE, Int.reduceNeg, Int.reduceToNat, Int.reduceAbs, Nat.reducePow, Nat.reduceLT, Nat.reduceLeDiff, sizeLine_eq, Int.reduceMul, Int.reduceAdd, Int.reduceSub, Bool.not_eq_true', decide_eq_false_iff_not, scal, Bool.not_true, Bool.not_false, Bool.true_eq_false, Bool.false_eq_true, ite_false, ite_true, if_true, if_false, ite_self, forall_const, atI0, atI1, atI2, atI3, ixN20, ixN21, upd_same, upd_upd, Int.zero_add, CMul, Int.reduceSub, Nat.le_refl, Nat.zero_le, or_true, true_or, exists_const, Int.sub_zero, sp_law_ask])
        exact ⟨m, S, M5, w, Im.mono tk5 _ _ iv3, by omega, hnd, fun m1 q2 z2 H6 M6 hm1 hq2 nq2 hz2 iz2 b6 => END H5 H6 H3 _ _ l1 m1 q1 q2 z1 z2 gg L5 (.inr hl1) hq1 nq1 hz1 iz1 b5 M6 (.inr hm1) hq2 nq2 hz2 iz2 b6 (askS_len _ _) (askS_nd _ _ hnd) (askS_out _ _) (askS_inv _)⟩
      · (try simp only [ne_0_1, ne_0_1b, ne_0_5, ne_0_5b, ne_0_6, ne_0_6b, ne_0_7, ne_0_7b, ne_1_0, ne_1_0b, ne_1_2, ne_1_2b, ne_1_3, ne_1_3b, ne_1_4, ne_1_4b, ne_1_5, ne_1_5b, ne_1_6, ne_1_6b, ne_1_7, ne_1_7b, ne_1_8, ne_1_8b, ne_2_1, ne_2_1b, ne_2_5, ne_2_5b, ne_2_6, ne_2_6b, ne_2_7, ne_2_7b, ne_3_1, ne_3_1b, ne_3_5, ne_3_5b, ne_3_6, ne_3_6b, ne_3_7, ne_3_7b, ne_4_1, ne_4_1b, ne_4_5, ne_4_5b, ne_4_6, ne_4_6b, ne_4_7, ne_4_7b, ne_5_0, ne_5_0b, ne_5_1, ne_5_1b, ne_5_2, ne_5_2b, ne_5_3, ne_5_3b, ne_5_4, ne_5_4b, ne_5_6, ne_5_6b, ne_5_7, ne_5_7b, ne_5_8, ne_5_8b, ne_6_0, ne_6_0b, ne_6_1, ne_6_1b, ne_6_2, ne_6_2b, ne_6_3, ne_6_3b, ne_6_4, ne_6_4b, ne_6_5, ne_6_5b, ne_6_7, ne_6_7b, ne_6_8, ne_6_8b, ne_7_0, ne_7_0b, ne_7_1, ne_7_1b, ne_7_2, ne_7_2b, ne_7_3, ne_7_3b, ne_7_4, ne_7_4b, ne_7_5, ne_7_5b, ne_7_6, ne_7_6b, ne_7_8, ne_7_8b, ne_8_1, ne_8_1b, ne_8_5, ne_8_5b, ne_8_6, ne_8_6b, ne_8_7, ne_8_7b, cxOf, Cx.nox, Cx.wish, tSeq, tAsg, tC, gName, tIfS, tTest, tOp, tUn, rU, rI0, rI, tVar, tNext, tBreak, tRet, tRetN, tDrop, tLst, tTup, tCons, tNil, tCB, tB, tOr, tAnd, tNot, tIf, tCall, tFor_eq, tLc_eq, iRng1, iRng2, iList, iTup, gTup, gTupH, gUnlH, gCons, gNil, gSub, rSetL, rIxL, rIxT, rIxLH, rIxTH, rSlTS, rCatS, rTupS, rIsiH, rLenS, V.ty.injEq, tyS_non, tyS_bl, tyS_int, tyS_str, tyS_ref, tyO_l, tyO_t, tyO_d, tyO_dt, kit_ll, kit_tt, kit_bb, kit_ii, kit_ib, kit_bi, kit_nt, kit_it, kit_st, kit_bt, kit_lt, kit_dt, kit_ni, kit_si, kit_ti, kit_li, kit_di, kit_nb, kit_ns, kit_is, kit_bs, kit_ss, kit_ts, kit_ls, kit_ds, kit_dd, lenS_ref, lenO_l, lenO_t,  rAppend, tM1, rIxS, tSl, tPart, tNoPart, tBM, tBM0, tDGetS, sDPutS, tTruS, truO_l, truO_t, truS_ref, truS_non, truS_bl, truS_int, tFld, sFld, sFldAug, rAdd, tMeth, tMake, tMakeK, List.take_succ_cons, List.take_zero, List.drop_succ_cons, List.drop_zero, List.take_nil, tIsN, tNotN, tAndV, tOrV, tNotV, putF, List.lookup, List.any_cons, List.any_nil, Sum.inr.injEq, HO.ins.injEq, HO.dK.injEq, eq_self, beq_self_eq_true, beq_iff_eq, decide_true, decide_false, Bool.or_true, Bool.true_or, Bool.or_false, Bool.false_or, tYes, rEq, rNe, _root_.L2.start, wipe, List.map_cons, List.map_nil, List.length_cons, List.length_nil, List.append_nil, Nat.reduceAdd, Nat.reduceSub, List.replicate_succ, List.replicate_zero, List.cons_append, List.nil_append, List.getElem?_cons_zero, List.getElem?_cons_succ, List.set_cons_zero, List.set_cons_succ, Option.some.injEq, V.int.injEq, V.ref.injEq, V.bl.injEq, V.str.injEq, List.cons.injEq, HO.lst.injEq, HO.tup.injEq, and_assoc, and_true, true_and, exists_eq_left, exists_eq_left', exists_and_left, exists_eq, reduceCtorEq, false_and, and_false, or_false, false_or, exists_false, decide_eq_true_eq, CPow, CDivW, Int.reducePow, Int.reduceLT, Int.reduceLE, Int.reduceNeg, Int.reduceToNat, Int.reduceAbs, Nat.reducePow, Nat.reduceLT, Nat.reduceLeDiff, sizeLine_eq, Int.reduceMul, Int.reduceAdd, Int.reduceSub, Bool.not_eq_true', decide_eq_false_iff_not, scal, Bool.not_true, Bool.not_false, Bool.true_eq_false, Bool.false_eq_true, ite_false, ite_true, if_true, if_false, ite_self, forall_const, atI0, atI1, atI2, atI3, ixN20, ixN21, upd_same, upd_upd, Int.zero_add, CMul, Int.reduceSub, Nat.le_refl, Nat.zero_le, or_true, true_or, exists_const, Int.sub_zero, hp3, lockF, ha, kd_fa, kd_na, kd_nf, sp_law_next])
        refine ⟨gg.st, fun y H4 y0 y1 g4 => ?_⟩
        have g4' := gg.trans g4
        have B4 := keepB g4'
        obtain ⟨dx4, hv4, ws4, hp4, ih4, hl4, iw4⟩ := id B4.lk
        have ha4 : H4 a = some (.tup [tv, .int w.2.2]) := g4.tk _ _ ha
        (try simp only [ne_0_1, ne_0_1b, ne_0_5, ne_0_5b, ne_0_6, ne_0_6b, ne_0_7, ne_0_7b, ne_1_0, ne_1_0b, ne_1_2, ne_1_2b, ne_1_3, ne_1_3b, ne_1_4, ne_1_4b, ne_1_5, ne_1_5b, ne_1_6, ne_1_6b, ne_1_7, ne_1_7b, ne_1_8, ne_1_8b, ne_2_1, ne_2_1b, ne_2_5, ne_2_5b, ne_2_6, ne_2_6b, ne_2_7, ne_2_7b, ne_3_1, ne_3_1b, ne_3_5, ne_3_5b, ne_3_6, ne_3_6b, ne_3_7, ne_3_7b, ne_4_1, ne_4_1b, ne_4_5, ne_4_5b, ne_4_6, ne_4_6b, ne_4_7, ne_4_7b, ne_5_0, ne_5_0b, ne_5_1, ne_5_1b, ne_5_2, ne_5_2b, ne_5_3, ne_5_3b, ne_5_4, ne_5_4b, ne_5_6, ne_5_6b, ne_5_7, ne_5_7b, ne_5_8, ne_5_8b, ne_6_0, ne_6_0b, ne_6_1, ne_6_1b, ne_6_2, ne_6_2b, ne_6_3, ne_6_3b, ne_6_4, ne_6_4b, ne_6_5, ne_6_5b, ne_6_7, ne_6_7b, ne_6_8, ne_6_8b, ne_7_0, ne_7_0b, ne_7_1, ne_7_1b, ne_7_2, ne_7_2b, ne_7_3, ne_7_3b, ne_7_4, ne_7_4b, ne_7_5, ne_7_5b, ne_7_6, ne_7_6b, ne_7_8, ne_7_8b, ne_8_1, ne_8_1b, ne_8_5, ne_8_5b, ne_8_6, ne_8_6b, ne_8_7, ne_8_7b, cxOf, Cx.nox, Cx.wish, tSeq, tAsg, tC, gName, tIfS, tTest, tOp, tUn, rU, rI0, rI, tVar, tNext, tBreak, tRet, tRetN, tDrop, tLst, tTup, tCons, tNil, tCB, tB, tOr, tAnd, tNot, tIf, tCall, tFor_eq, tLc_eq, iRng1, iRng2, iList, iTup, gTup, gTupH, gUnlH, gCons, gNil, gSub, rSetL, rIxL, rIxT, rIxLH, rIxTH, rSlTS, rCatS, rTupS, rIsiH, rLenS, V.ty.injEq, tyS_non, tyS_bl, tyS_int, tyS_str, tyS_ref, tyO_l, tyO_t, tyO_d, tyO_dt, kit_ll, kit_tt, kit_bb, kit_ii, kit_ib, kit_bi, kit_nt, kit_it, kit_st, kit_bt, kit_lt, kit_dt, kit_ni, kit_si, kit_ti, kit_li, kit_di, kit_nb, kit_ns, kit_is, kit_bs, kit_ss, kit_ts, kit_ls, kit_ds, kit_dd, lenS_ref, lenO_l, lenO_t,  rAppend, tM1, rIxS, tSl, tPart, tNoPart, tBM, tBM0, tDGetS, sDPutS, tTruS, truO_l, truO_t, truS_ref, truS_non, truS_bl, truS_int, tFld, sFld, sFldAug, rAdd, tMeth, tMake, tMakeK, List.take_succ_cons, List.take_zero, List.drop_succ_cons, List.drop_zero, List.take_nil, tIsN, tNotN, tAndV, tOrV, tNotV, putF, List.lookup, List.any_cons, List.any_nil, Sum.inr.injEq, HO.ins.injEq, HO.dK.injEq, eq_self, beq_self_eq_true, beq_iff_eq, decide_true, decide_false, Bool.or_true, Bool.true_or, Bool.or_false, Bool.false_or, tYes, rEq, rNe, _root_.L2.start, wipe, List.map_cons, List.map_nil, List.length_cons, List.length_nil, List.append_nil, Nat.reduceAdd, Nat.reduceSub, List.replicate_succ, List.replicate_zero, List.cons_append, List.nil_append, List.getElem?_cons_zero, List.getElem?_cons_succ, List.set_cons_zero, List.set_cons_succ, Option.some.injEq, V.int.injEq, V.ref.injEq, V.bl.injEq, V.str.injEq, List.cons.injEq, HO.lst.injEq, HO.tup.injEq, and_assoc, and_true, true_and, exists_eq_left, exists_eq_left', exists_and_left, exists_eq, reduceCtorEq, false_and, and_false, or_false, false_or, exists_false, decide_eq_true_eq, CPow, CDivW, Int.reducePow, Int.reduceLT, Int.reduceLE, Int.reduceNeg, Int.reduceToNat, Int.reduceAbs, Nat.reducePow, Nat.reduceLT, Nat.reduceLeDiff, sizeLine_eq, Int.reduceMul, Int.reduceAdd, Int.reduceSub, Bool.not_eq_true', decide_eq_false_iff_not, scal, Bool.not_true, Bool.not_false, Bool.true_eq_false, Bool.false_eq_true, ite_false, ite_true, if_true, if_false, ite_self, forall_const, atI0, atI1, atI2, atI3, ixN20, ixN21, upd_same, upd_upd, Int.zero_add, CMul, Int.reduceSub, Nat.le_refl, Nat.zero_le, or_true, true_or, exists_const, Int.sub_zero, hp4, lockF, ha4, sp_Lock_free])
        generalize (if w.2.2 - y + 1 > 0 then w.2.2 - y + 1 else 0) = at0
        refine ⟨l, S, B4.lk, w.tr, g4.im itv, by omega, fun l1 q1 z1 H5 L5 hl1 hq1 nq1 hz1 iz1 b5 => ?_⟩
        obtain ⟨M5, tk5⟩ := KM H4 H5 g4' b5
        have ha5 := tk5 _ _ ha4
        (try simp only [ne_0_1, ne_0_1b, ne_0_5, ne_0_5b, ne_0_6, ne_0_6b, ne_0_7, ne_0_7b, ne_1_0, ne_1_0b, ne_1_2, ne_1_2b, ne_1_3, ne_1_3b, ne_1_4, ne_1_4b, ne_1_5, ne_1_5b, ne_1_6, ne_1_6b, ne_1_7, ne_1_7b, ne_1_8, ne_1_8b, ne_2_1, ne_2_1b, ne_2_5, ne_2_5b, ne_2_6, ne_2_6b, ne_2_7, ne_2_7b, ne_3_1, ne_3_1b, ne_3_5, ne_3_5b, ne_3_6, ne_3_6b, ne_3_7, ne_3_7b, ne_4_1, ne_4_1b, ne_4_5, ne_4_5b, ne_4_6, ne_4_6b, ne_4_7, ne_4_7b, ne_5_0, ne_5_0b, ne_5_1, ne_5_1b, ne_5_2, ne_5_2b, ne_5_3, ne_5_3b, ne_5_4, ne_5_4b, ne_5_6, ne_5_6b, ne_5_7, ne_5_7b, ne_5_8, ne_5_8b, ne_6_0, ne_6_0b, ne_6_1, ne_6_1b, ne_6_2, ne_6_2b, ne_6_3, ne_6_3b, ne_6_4, ne_6_4b, ne_6_5, ne_6_5b, ne_6_7, ne_6_7b, ne_6_8, ne_6_8b, ne_7_0, ne_7_0b, ne_7_1, ne_7_1b, ne_7_2, ne_7_2b, ne_7_3, ne_7_3b, ne_7_4, ne_7_4b, ne_7_5, ne_7_5b, ne_7_6, ne_7_6b, ne_7_8, ne_7_8b, ne_8_1, ne_8_1b, ne_8_5, ne_8_5b, ne_8_6, ne_8_6b, ne_8_7, ne_8_7b, cxOf, Cx.nox, Cx.wish, tSeq, tAsg, tC, gName, tIfS, tTest, tOp, tUn, rU, rI0, rI, tVar, tNext, tBreak, tRet, tRetN, tDrop, tLst, tTup, tCons, tNil, tCB, tB, tOr, tAnd, tNot, tIf, tCall, tFor_eq, tLc_eq, iRng1, iRng2, iList, iTup, gTup, gTupH, gUnlH, gCons, gNil, gSub, rSetL, rIxL, rIxT, rIxLH, rIxTH, rSlTS, rCatS, rTupS, rIsiH, rLenS, V.ty.injEq, tyS_non, tyS_bl, tyS_int, tyS_str, tyS_ref, tyO_l, tyO_t, tyO_d, tyO_dt, kit_ll, kit_tt, kit_bb, kit_ii, kit_ib, kit_bi, kit_nt, kit_it, kit_st, kit_bt, kit_lt, kit_dt, kit_ni, kit_si, kit_ti, kit_li, kit_di, kit_nb, kit_ns, kit_is, kit_bs, kit_ss, kit_ts, kit_ls, kit_ds, kit_dd, lenS_ref, lenO_l, lenO_t,  rAppend, tM1, rIxS, tSl, tPart, tNoPart, tBM, tBM0, tDGetS, sDPutS, tTruS, truO_l, truO_t, truS_ref, truS_non, truS_bl, truS_int, tFld, sFld, sFldAug, rAdd, tMeth, tMake, tMakeK, List.take_succ_cons, List.take_zero, List.drop_succ_cons, List.drop_zero, List.take_nil, tIsN, tNotN, tAndV, tOrV, tNotV, putF, List.lookup, List.any_cons, List.any_nil, Sum.inr.injEq, HO.ins.injEq, HO.dK.injEq, eq_self, beq_self_eq_true, beq_iff_eq, decide_true, decide_false, Bool.or_true, Bool.true_or, Bool.or_false, Bool.false_or, tYes, rEq, rNe, _root_.L2.start, wipe, List.map_cons, List.map_nil, List.length_cons, List.length_nil, List.append_nil, Nat.reduceAdd, Nat.reduceSub, List.replicate_succ, List.replicate_zero, List.cons_append, List.nil_append, List.getElem?_cons_zero, List.getElem?_cons_succ, List.set_cons_zero, List.set_cons_succ, Option.some.injEq, V.int.injEq, V.ref.injEq, V.bl.injEq, V.str.injEq, List.cons.injEq, HO.lst.injEq, HO.tup.injEq, and_assoc, and_true, true_and, exists_eq_left, exists_eq_left', exists_and_left, exists_eq, reduceCtorEq, false_and, and_false, or_false, false_or, exists_false, decide_eq_true_eq, CPow, CDivW, Int.reducePow, Int.reduceLT, Int.reduceLE, Int.reduceNeg, Int.reduceToNat, Int.reduceAbs, Nat.reducePow, Nat.reduceLT, Nat.reduceLeDiff, sizeLine_eq, Int.reduceMul, Int.reduceAdd, Int.reduceSub, Bool.not_eq_true', decide_eq_false_iff_not, scal, Bool.not_true, Bool.not_false, Bool.true_eq_false, Bool.false_eq_true, ite_false, ite_true, if_true, if_false, ite_self, forall_const, atI0, atI1, atI2, atI3, ixN20, ixN21, upd_same, upd_upd, Int.zero_add, CMul, Int.reduceSub, Nat.le_refl, Nat.zero_le, or_true, true_or, exists_const, Int.sub_zero, ha5, sp_law_free])
        exact ⟨m, S, M5, w.tr, Im.mono tk5 _ _ (g4.im itv), by omega, hnd, fun m1 q2 z2 H6 M6 hm1 hq2 nq2 hz2 iz2 b6 => END H5 H6 H4 _ _ l1 m1 q1 q2 z1 z2 g4' L5 (.inr hl1) hq1 nq1 hz1 iz1 b5 M6 (.inr hm1) hq2 nq2 hz2 iz2 b6 (Nat.le_succ_of_le (freeS_len _ _ _)) (freeS_nd _ _ _ hnd) (freeS_out _ _ _) (freeS_inv _ _)⟩
      · (try simp only [ne_0_1, ne_0_1b, ne_0_5, ne_0_5b, ne_0_6, ne_0_6b, ne_0_7, ne_0_7b, ne_1_0, ne_1_0b, ne_1_2, ne_1_2b, ne_1_3, ne_1_3b, ne_1_4, ne_1_4b, ne_1_5, ne_1_5b, ne_1_6, ne_1_6b, ne_1_7, ne_1_7b, ne_1_8, ne_1_8b, ne_2_1, ne_2_1b, ne_2_5, ne_2_5b, ne_2_6, ne_2_6b, ne_2_7, ne_2_7b, ne_3_1, ne_3_1b, ne_3_5, ne_3_5b, ne_3_6, ne_3_6b, ne_3_7, ne_3_7b, ne_4_1, ne_4_1b, ne_4_5, ne_4_5b, ne_4_6, ne_4_6b, ne_4_7, ne_4_7b, ne_5_0, ne_5_0b, ne_5_1, ne_5_1b, ne_5_2, ne_5_2b, ne_5_3, ne_5_3b, ne_5_4, ne_5_4b, ne_5_6, ne_5_6b, ne_5_7, ne_5_7b, ne_5_8, ne_5_8b, ne_6_0, ne_6_0b, ne_6_1, ne_6_1b, ne_6_2, ne_6_2b, ne_6_3, ne_6_3b, ne_6_4, ne_6_4b, ne_6_5, ne_6_5b, ne_6_7, ne_6_7b, ne_6_8, ne_6_8b, ne_7_0, ne_7_0b, ne_7_1, ne_7_1b, ne_7_2, ne_7_2b, ne_7_3, ne_7_3b, ne_7_4, ne_7_4b, ne_7_5, ne_7_5b, ne_7_6, ne_7_6b, ne_7_8, ne_7_8b, ne_8_1, ne_8_1b, ne_8_5, ne_8_5b, ne_8_6, ne_8_6b, ne_8_7, ne_8_7b, cxOf, Cx.nox, Cx.wish, tSeq, tAsg, tC, gName, tIfS, tTest, tOp, tUn, rU, rI0, rI, tVar, tNext, tBreak, tRet, tRetN, tDrop, tLst, tTup, tCons, tNil, tCB, tB, tOr, tAnd, tNot, tIf, tCall, tFor_eq, tLc_eq, iRng1, iRng2, iList, iTup, gTup, gTupH, gUnlH, gCons, gNil, gSub, rSetL, rIxL, rIxT, rIxLH, rIxTH, rSlTS, rCatS, rTupS, rIsiH, rLenS, V.ty.injEq, tyS_non, tyS_bl, tyS_int, tyS_str, tyS_ref, tyO_l, tyO_t, tyO_d, tyO_dt, kit_ll, kit_tt, kit_bb, kit_ii, kit_ib, kit_bi, kit_nt, kit_it, kit_st, kit_bt, kit_lt, kit_dt, kit_ni, kit_si, kit_ti, kit_li, kit_di, kit_nb, kit_ns, kit_is, kit_bs, kit_ss, kit_ts, kit_ls, kit_ds, kit_dd, lenS_ref, lenO_l, lenO_t,  rAppend, tM1, rIxS, tSl, tPart, tNoPart, tBM, tBM0, tDGetS, sDPutS, tTruS, truO_l, truO_t, truS_ref, truS_non, truS_bl, truS_int, tFld, sFld, sFldAug, rAdd, tMeth, tMake, tMakeK, List.take_succ_cons, List.take_zero, List.drop_succ_cons, List.drop_zero, List.take_nil, tIsN, tNotN, tAndV, tOrV, tNotV, putF, List.lookup, List.any_cons, List.any_nil, Sum.inr.injEq, HO.ins.injEq, HO.dK.injEq, eq_self, beq_self_eq_true, beq_iff_eq, decide_true, decide_false, Bool.or_true, Bool.true_or, Bool.or_false, Bool.false_or, tYes, rEq, rNe, _root_.L2.start, wipe, List.map_cons, List.map_nil, List.length_cons, List.length_nil, List.append_nil, Nat.reduceAdd, Nat.reduceSub, List.replicate_succ, List.replicate_zero, List.cons_append, List.nil_append, List.getElem?_cons_zero, List.getElem?_cons_succ, List.set_cons_zero, List.set_cons_succ, Option.some.injEq, V.int.injEq, V.ref.injEq, V.bl.injEq, V.str.injEq, List.cons.injEq, HO.lst.injEq, HO.tup.injEq, and_assoc, and_true, true_and, exists_eq_left, exists_eq_left', exists_and_left, exists_eq, reduceCtorEq, false_and, and_false, or_false, false_or, exists_false, decide_eq_true_eq, CPow, CDivW, Int.reducePow, Int.reduceLT, Int.reduceLE, Int.reduceNeg, Int.reduceToNat, Int.reduceAbs, Nat.reducePow, Nat.reduceLT, Nat.reduceLeDiff, sizeLine_eq, Int.reduceMul, Int.reduceAdd, Int.reduceSub, Bool.not_eq_true', decide_eq_false_iff_not, scal, Bool.not_true, Bool.not_false, Bool.true_eq_false, Bool.false_eq_true, ite_false, ite_true, if_true, if_false, ite_self, forall_const, atI0, atI1, atI2, atI3, ixN20, ixN21, upd_same, upd_upd, Int.zero_add, CMul, Int.reduceSub, Nat.le_refl, Nat.zero_le, or_true, true_or, exists_const, Int.sub_zero, hp3, lockF, ha, kd_fa, kd_na, kd_nf, sp_law_next])
        refine ⟨gg.st, fun y H4 y0 y1 g4 => ⟨g4.st, fun y' H5 y0' y1' g5 c2 hc2 => ⟨g5.st.new hc2, fun j H6 j0 j1 g6 => ?_⟩⟩⟩
        have g6' : Gn s0 H H6 := (((gg.trans g4).trans g5).new hc2).trans g6
        have hc6 := g6.at upd_same (St2.nn g5.st hc2)
        obtain ⟨val, hval, hvm⟩ := atI_mem (xs := [V.int (y - 20), V.int (y' - 1000000000000000)]) j0 (by simpa using j1)
        obtain ⟨n, rfl⟩ : ∃ n, val = V.int n := by
          simp only [List.mem_cons, List.not_mem_nil, or_false] at hvm
          rcases hvm with rfl | rfl <;> exact ⟨_, rfl⟩
        have B6 := keepB g6'
        obtain ⟨dx4, hv4, ws4, hp4, ih4, hl4, iw4⟩ := id B6.lk
        have iv6 : Im H6 (wD w) (.ref a) := g6.im (imNew hc2 (g5.im (g4.im iv3)))
        (try simp only [ne_0_1, ne_0_1b, ne_0_5, ne_0_5b, ne_0_6, ne_0_6b, ne_0_7, ne_0_7b, ne_1_0, ne_1_0b, ne_1_2, ne_1_2b, ne_1_3, ne_1_3b, ne_1_4, ne_1_4b, ne_1_5, ne_1_5b, ne_1_6, ne_1_6b, ne_1_7, ne_1_7b, ne_1_8, ne_1_8b, ne_2_1, ne_2_1b, ne_2_5, ne_2_5b, ne_2_6, ne_2_6b, ne_2_7, ne_2_7b, ne_3_1, ne_3_1b, ne_3_5, ne_3_5b, ne_3_6, ne_3_6b, ne_3_7, ne_3_7b, ne_4_1, ne_4_1b, ne_4_5, ne_4_5b, ne_4_6, ne_4_6b, ne_4_7, ne_4_7b, ne_5_0, ne_5_0b, ne_5_1, ne_5_1b, ne_5_2, ne_5_2b, ne_5_3, ne_5_3b, ne_5_4, ne_5_4b, ne_5_6, ne_5_6b, ne_5_7, ne_5_7b, ne_5_8, ne_5_8b, ne_6_0, ne_6_0b, ne_6_1, ne_6_1b, ne_6_2, ne_6_2b, ne_6_3, ne_6_3b, ne_6_4, ne_6_4b, ne_6_5, ne_6_5b, ne_6_7, ne_6_7b, ne_6_8, ne_6_8b, ne_7_0, ne_7_0b, ne_7_1, ne_7_1b, ne_7_2, ne_7_2b, ne_7_3, ne_7_3b, ne_7_4, ne_7_4b, ne_7_5, ne_7_5b, ne_7_6, ne_7_6b, ne_7_8, ne_7_8b, ne_8_1, ne_8_1b, ne_8_5, ne_8_5b, ne_8_6, ne_8_6b, ne_8_7, ne_8_7b, cxOf, Cx.nox, Cx.wish, tSeq, tAsg, tC, gName, tIfS, tTest, tOp, tUn, rU, rI0, rI, tVar, tNext, tBreak, tRet, tRetN, tDrop, tLst, tTup, tCons, tNil, tCB, tB, tOr, tAnd, tNot, tIf, tCall, tFor_eq, tLc_eq, iRng1, iRng2, iList, iTup, gTup, gTupH, gUnlH, gCons, gNil, gSub, rSetL, rIxL, rIxT, rIxLH, rIxTH, rSlTS, rCatS, rTupS, rIsiH, rLenS, V.ty.injEq, tyS_non, tyS_bl, tyS_int, tyS_str, tyS_ref, tyO_l, tyO_t, tyO_d, tyO_dt, kit_ll, kit_tt, kit_bb, kit_ii, kit_ib, kit_bi, kit_nt, kit_it, kit_st, kit_bt, kit_lt, kit_dt, kit_ni, kit_si, kit_ti, kit_li, kit_di, kit_nb, kit_ns, kit_is, kit_bs, kit_ss, kit_ts, kit_ls, kit_ds, kit_dd, lenS_ref, lenO_l, lenO_t,  rAppend, tM1, rIxS, tSl, tPart, tNoPart, tBM, tBM0, tDGetS, sDPutS, tTruS, truO_l, truO_t, truS_ref, truS_non, truS_bl, truS_int, tFld, sFld, sFldAug, rAdd, tMeth, tMake, tMakeK, List.take_succ_cons, List.take_zero, List.drop_succ_cons, List.drop_zero, List.take_nil, tIsN, tNotN, tAndV, tOrV, tNotV, putF, List.lookup, List.any_cons, List.any_nil, Sum.inr.injEq, HO.ins.injEq, HO.dK.injEq, eq_self, beq_self_eq_true, beq_iff_eq, decide_true, decide_false, Bool.or_true, Bool.true_or, Bool.or_false, Bool.false_or, tYes, rEq, rNe, _root_.L2.start, wipe, List.map_cons, List.map_nil, List.length_cons, List.length_nil, List.append_nil, Nat.reduceAdd, Nat.reduceSub, List.replicate_succ, List.replicate_zero, List.cons_append, List.nil_append, List.getElem?_cons_zero, List.getElem?_cons_succ, List.set_cons_zero, List.set_cons_succ, Option.some.injEq, V.int.injEq, V.ref.injEq, V.bl.injEq, V.str.injEq, List.cons.injEq, HO.lst.injEq, HO.tup.injEq, and_assoc, and_true, true_and, exists_eq_left, exists_eq_left', exists_and_left, exists_eq, reduceCtorEq, false_and, and_false, or_false, false_or, exists_false, decide_eq_true_eq, CPow, CDivW, Int.reducePow, Int.reduceLT, Int.reduceLE, Int.reduceNeg, Int.reduceToNat, Int.reduceAbs, Nat.reducePow, Nat.reduceLT, Nat.reduceLeDiff, sizeLine_eq, Int.reduceMul, Int.reduceAdd, Int.reduceSub, Bool.not_eq_true', decide_eq_false_iff_not, scal, Bool.not_true, Bool.not_false, Bool.true_eq_false, Bool.false_eq_true, ite_false, ite_true, if_true, if_false, ite_self, forall_const, atI0, atI1, atI2, atI3, ixN20, ixN21, upd_same, upd_upd, Int.zero_add, CMul, Int.reduceSub, Nat.le_refl, Nat.zero_le, or_true, true_or, exists_const, Int.sub_zero, hc6, hval, hp4, lockF, sp_Lock_finish])
        refine ⟨l, S, B6.lk, w, iv6, by omega, fun l1 q1 z1 H7 L7 hl1 hq1 nq1 hz1 iz1 b7 => ?_⟩
        obtain ⟨M7, tk7⟩ := KM H6 H7 g6' b7
        (try simp only [ne_0_1, ne_0_1b, ne_0_5, ne_0_5b, ne_0_6, ne_0_6b, ne_0_7, ne_0_7b, ne_1_0, ne_1_0b, ne_1_2, ne_1_2b, ne_1_3, ne_1_3b, ne_1_4, ne_1_4b, ne_1_5, ne_1_5b, ne_1_6, ne_1_6b, ne_1_7, ne_1_7b, ne_1_8, ne_1_8b, ne_2_1, ne_2_1b, ne_2_5, ne_2_5b, ne_2_6, ne_2_6b, ne_2_7, ne_2_7b, ne_3_1, ne_3_1b, ne_3_5, ne_3_5b, ne_3_6, ne_3_6b, ne_3_7, ne_3_7b, ne_4_1, ne_4_1b, ne_4_5, ne_4_5b, ne_4_6, ne_4_6b, ne_4_7, ne_4_7b, ne_5_0, ne_5_0b, ne_5_1, ne_5_1b, ne_5_2, ne_5_2b, ne_5_3, ne_5_3b, ne_5_4, ne_5_4b, ne_5_6, ne_5_6b, ne_5_7, ne_5_7b, ne_5_8, ne_5_8b, ne_6_0, ne_6_0b, ne_6_1, ne_6_1b, ne_6_2, ne_6_2b, ne_6_3, ne_6_3b, ne_6_4, ne_6_4b, ne_6_5, ne_6_5b, ne_6_7, ne_6_7b, ne_6_8, ne_6_8b, ne_7_0, ne_7_0b, ne_7_1, ne_7_1b, ne_7_2, ne_7_2b, ne_7_3, ne_7_3b, ne_7_4, ne_7_4b, ne_7_5, ne_7_5b, ne_7_6, ne_7_6b, ne_7_8, ne_7_8b, ne_8_1, ne_8_1b, ne_8_5, ne_8_5b, ne_8_6, ne_8_6b, ne_8_7, ne_8_7b, cxOf, Cx.nox, Cx.wish, tSeq, tAsg, tC, gName, tIfS, tTest, tOp, tUn, rU, rI0, rI, tVar, tNext, tBreak, tRet, tRetN, tDrop, tLst, tTup, tCons, tNil, tCB, tB, tOr, tAnd, tNot, tIf, tCall, tFor_eq, tLc_eq, iRng1, iRng2, iList, iTup, gTup, gTupH, gUnlH, gCons, gNil, gSub, rSetL, rIxL, rIxT, rIxLH, rIxTH, rSlTS, rCatS, rTupS, rIsiH, rLenS, V.ty.injEq, tyS_non, tyS_bl, tyS_int, tyS_str, tyS_ref, tyO_l, tyO_t, tyO_d, tyO_dt, kit_ll, kit_tt, kit_bb, kit_ii, kit_ib, kit_bi, kit_nt, kit_it, kit_st, kit_bt, kit_lt, kit_dt, kit_ni, kit_si, kit_ti, kit_li, kit_di, kit_nb, kit_ns, kit_is, kit_bs, kit_ss, kit_ts, kit_ls, kit_ds, kit_dd, lenS_ref, lenO_l, lenO_t,  rAppend, tM1, rIxS, tSl, tPart, tNoPart, tBM, tBM0, tDGetS, sDPutS, tTruS, truO_l, truO_t, truS_ref, truS_non, truS_bl, truS_int, tFld, sFld, sFldAug, rAdd, tMeth, tMake, tMakeK, List.take_succ_cons, List.take_zero, List.drop_succ_cons, List.drop_zero, List.take_nil, tIsN, tNotN, tAndV, tOrV, tNotV, putF, List.lookup, List.any_cons, List.any_nil, Sum.inr.injEq, HO.ins.injEq, HO.dK.injEq, eq_self, beq_self_eq_true, beq_iff_eq, decide_true, decide_false, Bool.or_true, Bool.true_or, Bool.or_false, Bool.false_or, tYes, rEq, rNe, _root_.L2.start, wipe, List.map_cons, List.map_nil, List.length_cons, List.length_nil, List.append_nil, Nat.reduceAdd, Nat.reduceSub, List.replicate_succ, List.replicate_zero, List.cons_append, List.nil_append, List.getElem?_cons_zero, List.getElem?_cons_succ, List.set_cons_zero, List.set_cons_succ, Option.some.injEq, V.int.injEq, V.ref.injEq, V.bl.injEq, V.str.injEq, List.cons.injEq, HO.lst.injEq, HO.tup.injEq, and_assoc, and_true, true_and, exists_eq_left, exists_eq_left', exists_and_left, exists_eq, reduceCtorEq, false_and, and_false, or_false, false_or, exists_false, decide_eq_true_eq, CPow, CDivW, Int.reducePow, Int.reduceLT, Int.reduceLE, Int.reduceNeg, Int.reduceToNat, Int.reduceAbs, Nat.reducePow, Nat.reduceLT, Nat.reduceLeDiff, sizeLine_eq, Int.reduceMul, Int.reduceAdd, Int.reduceSub, Bool.not_eq_true', decide_eq_false_iff_not, scal, Bool.not_true, Bool.not_false, Bool.true_eq_false, Bool.false_eq_true, ite_false, ite_true, if_true, if_false, ite_self, forall_const, atI0, atI1, atI2, atI3, ixN20, ixN21, upd_same, upd_upd, Int.zero_add, CMul, Int.reduceSub, Nat.le_refl, Nat.zero_le, or_true, true_or, exists_const, Int.sub_zero, sp_law_finish])
        exact ⟨m, S, M7, w, Im.mono tk7 _ _ iv6, by omega, hnd, fun m1 q2 z2 H8 M8 hm1 hq2 nq2 hz2 iz2 b8 => END H7 H8 H6 _ _ l1 m1 q1 q2 z1 z2 g6' L7 hl1 hq1 nq1 hz1 iz1 b7 M8 hm1 hq2 nq2 hz2 iz2 b8 (Nat.le_succ_of_le (finS_len _ _ _)) (finS_nd _ _ _ hnd) (finS_out _ _ _) (finS_inv _ _)⟩
structure EmpAt (C : Addr) (H H' : Hp) (p l0 d m0 q D : Addr) (zs : List V) (S0 : LS) (k : Nat) (l m : Addr) (S : LS) (held : List Who) (xs : List V) : Prop where
  bo : Both C H' p l d m S
  em : Emp S0 k S held
  iv : S.Inv
  hD : H' D = some (.lst xs)
  ix : ImAll H' (held.map wD) xs
  hq : H' q = some (.lst zs)
  iz : ImAll H' ((sortW S0.waiting).map wD) zs
  ol : l = l0 ∨ H l = none
  om : m = m0 ∨ H m = none
  nDl : D ≠ l
  nDm : D ≠ m
  nql : q ≠ l
  nqm : q ≠ m
  hDn : H D = none
  fr : ∀ b o, H b = some o → b ≠ p → b ≠ l0 → b ≠ d → b ≠ m0 → H' b = some o
  nn : ∀ b, H' b = none → H b = none
def sp_law_emptied (C : Addr) : Sp := fun vs H Q _ => ∃ (p l d m : Addr) (S : LS), vs = [.ref p, .ref d] ∧ Both C H p l d m S ∧ S.waiting.length ≤ 900 ∧ S.waiting.Nodup ∧ S.Inv ∧
  ∀ H', (∀ b o, H b = some o → b ≠ p → b ≠ l → b ≠ d → b ≠ m → H' b = some o) → Q (.bl true) H'
theorem ok_law_emptied (T : Txt K mg) : FnOk P w K mg base CX0 4 T.f_law_emptied T.d_law_emptied ["_law_lock", "_law_model_here"] (sp_law_emptied T.C_Lock) := by
  refine Fun.ok T.F_law_emptied sc_law_emptied (fun vs H Q E h => ?_) (fun cdv A outer s H vs Q E hr h => ?_)
  · obtain ⟨p, l, d, m, S0, rfl, B, hlen, hnd, hinv, kk⟩ := h; rfl
  · obtain ⟨p, l, d, m, S0, rfl, B, hlen, hnd, hinv, kk⟩ := h
    have hu := hu_of hr
    refine ⟨_, (pss_cons (ps_set (i := 2) sc_law_emptied.nd rfl (Or.inr rfl) (pe_callB (call_sortD (hu65 hr)) (by rfl) T.z_sorted (by decide +kernel) (pa_cons (pe_dgetS hu (pv 1) pe_str (fun _ _ => rfl)) pa_nil)))
      (pss_cons (ps_set (i := 3) sc_law_emptied.nd rfl (Or.inl rfl) (pe_dgetS hu (pv 1) pe_str (fun _ _ => rfl)))
      (pss_cons (ps_set (i := 4) sc_law_emptied.nd rfl (Or.inl rfl) (pe_lst pa_nil))
      (pss_cons (ps_for PassesOwn.never rfl (pi_range1 (by rfl) T.z_range (pa_cons (pe_op op_add (pe_callB call_lenS (by rfl) T.z_len (by decide +kernel) (pa_cons (pv 2) pa_nil)) pe_int) pa_nil)) (pg_name (i := 5) sc_law_emptied.nd rfl (Or.inl rfl))
      (pss_cons (ps_if (pt_cmp (pc_isN (pe_fld (pv 0) rfl))) (pss_one ps_break) pss_nil)
      (C8.pss_cut (ps_if (pt_cmpR op_gt (pv 5) pe_int (nomark _)) (pss_one (ps_expr (pe_bm PySem.F.plainAttrs_list PySem.F.slot_list_append PySem.F.type_list_append mt_append (pv 4) (pa_cons (pe_fld (pv 0) rfl) pa_nil)))) pss_nil)
      (pss_cons (ps_set (i := 6) sc_law_emptied.nd rfl (Or.inl rfl) (pe_meth (pv 0) T.cl_Lock T.m_Lock_finish (ok_Lock_finish T) (hr.mono (by decide)) T.b_Lock_finish .nil pass0 (pa_cons (pe_fld (pv 0) rfl) (pa_cons (pv 5) pa_nil))))
      (pss_one (ps_if (PW.pt (pw_or (pt_cmpR (op_neDK (K := K) rfl hr.units) (pv 6) (pe_call (ok_law_finish T) (hr.mono (by decide)) rfl T.g_law_finish T.F_law_finish.kp T.b_law_finish .nil pass0 (pa_cons (pv 1) (pa_cons (pe_dgetS hu (pv 1) pe_str (fun _ _ => rfl)) (pa_cons (pv 5) pa_nil)))) (nomark _)) (pw_or1 (pt_not (pt_val (pe_call (ok_law_lock_is T) (hr.mono (by decide)) rfl T.g_law_lock_is T.F_law_lock_is.kp T.b_law_lock_is .nil pass0 (pa_cons (pv 0) (pa_cons (pv 1) pa_nil)))))))) (pss_one (ps_ret pe_bl)) pss_nil))))))
      (pss_cons (ps_if (PW.pt (pw_or (pt_cmp (pc_notN (pe_fld (pv 0) rfl))) (pw_or (pt_cmpR (op_neDK (K := K) rfl hr.units) (pe_meth0 (pv 0) T.cl_Lock T.m_Lock_waiting (ok_Lock_waiting T) (hr.mono (by decide)) T.b_Lock_waiting .nil pass0) (pe_lst pa_nil) (nomark _)) (pw_or1 (pt_not (pt_val (pe_call (ok_law_is T) (hr.mono (by decide)) rfl T.g_law_is T.F_law_is.kp T.b_law_is .nil pass0 (pa_cons (pe_fld (pv 0) rfl) (pa_cons (pe_op op_add (pv 3) (pe_callB call_lenS (by rfl) T.z_len (by decide +kernel) (pa_cons (pv 4) pa_nil))) pa_nil))))))))) (pss_one (ps_ret pe_bl)) pss_nil)
      (pss_one (ps_ret (pe_and (pe_cmpR (op_eqDK (K := K) rfl hr.units) (pv 4) (pe_callB (call_sortD (hu65 hr)) (by rfl) T.z_sorted (by decide +kernel) (pa_cons (pv 4) pa_nil)) (nomark _)) (pe_one (pe_cmpR (op_eqDK (K := K) rfl hr.units) (pe_lc (own := [("_law_who_here", 7)]) (g := gName 7) rfl sc_law_emptied.nd (pi_list (pv 4)) (blkOk_by (N := N_law_emptied) (sc := defScope s_law_emptied) (by decide +kernel)) (fun _ _ _ _ _ => (pg_name (i := 7) sc_law_emptied.nd rfl (Or.inl rfl))) (fun _ _ _ _ _ => (pts_one (pt_cmpR (op_notInDK (K := K) rfl (hu65 hr)) (pv 7) (pv 2) (by rfl)))) (fun _ _ _ _ _ => (pv 7))) (pe_lst pa_nil) (nomark _))))))))))), ?_⟩
    obtain ⟨dx, hv, ws, hp, ih, hl, iw⟩ := id B.lk
    obtain ⟨hv', ws', hd, ihd, hm, iwm⟩ := id B.md
    (try simp only [ne_0_1, ne_0_1b, ne_0_5, ne_0_5b, ne_0_6, ne_0_6b, ne_0_7, ne_0_7b, ne_1_0, ne_1_0b, ne_1_2, ne_1_2b, ne_1_3, ne_1_3b, ne_1_4, ne_1_4b, ne_1_5, ne_1_5b, ne_1_6, ne_1_6b, ne_1_7, ne_1_7b, ne_1_8, ne_1_8b, ne_2_1, ne_2_1b, ne_2_5, ne_2_5b, ne_2_6, ne_2_6b, ne_2_7, ne_2_7b, ne_3_1, ne_3_1b, ne_3_5, ne_3_5b, ne_3_6, ne_3_6b, ne_3_7, ne_3_7b, ne_4_1, ne_4_1b, ne_4_5, ne_4_5b, ne_4_6, ne_4_6b, ne_4_7, ne_4_7b, ne_5_0, ne_5_0b, ne_5_1, ne_5_1b, ne_5_2, ne_5_2b, ne_5_3, ne_5_3b, ne_5_4, ne_5_4b, ne_5_6, ne_5_6b, ne_5_7, ne_5_7b, ne_5_8, ne_5_8b, ne_6_0, ne_6_0b, ne_6_1, ne_6_1b, ne_6_2, ne_6_2b, ne_6_3, ne_6_3b, ne_6_4, ne_6_4b, ne_6_5, ne_6_5b, ne_6_7, ne_6_7b, ne_6_8, ne_6_8b, ne_7_0, ne_7_0b, ne_7_1, ne_7_1b, ne_7_2, ne_7_2b, ne_7_3, ne_7_3b, ne_7_4, ne_7_4b, ne_7_5, ne_7_5b, ne_7_6, ne_7_6b, ne_7_8, ne_7_8b, ne_8_1, ne_8_1b, ne_8_5, ne_8_5b, ne_8_6, ne_8_6b, ne_8_7, ne_8_7b, cxOf, Cx.nox, Cx.wish, tSeq, tAsg, tC, gName, tIfS, tTest, tOp, tUn, rU, rI0, rI, tVar, tNext, tBreak, tRet, tRetN, tDrop, tLst, tTup, tCons, tNil, tCB, tB, tOr, tAnd, tNot, tIf, tCall, tFor_eq, tLc_eq, iRng1, iRng2, iList, iTup, gTup, gTupH, gUnlH, gCons, gNil, gSub, rSetL, rIxL, rIxT, rIxLH, rIxTH, rSlTS, rCatS, rTupS, rIsiH, rLenS, V.ty.injEq, tyS_non, tyS_bl, tyS_int, tyS_str, tyS_ref, tyO_l, tyO_t, tyO_d, tyO_dt, kit_ll, kit_tt, kit_bb, kit_ii, kit_ib, kit_bi, kit_nt, kit_it, kit_st, kit_bt, kit_lt, kit_dt, kit_ni, kit_si, kit_ti, kit_li, kit_di, kit_nb, kit_ns, kit_is, kit_bs, kit_ss, kit_ts, kit_ls, kit_ds, kit_dd, lenS_ref, lenO_l, lenO_t,  rAppend, tM1, rIxS, tSl, tPart, tNoPart, tBM, tBM0, tDGetS, sDPutS, tTruS, truO_l, truO_t, truS_ref, truS_non, truS_bl, truS_int, tFld, sFld, sFldAug, rAdd, tMeth, tMake, tMakeK, List.take_succ_cons, List.take_zero, List.drop_succ_cons, List.drop_zero, List.take_nil, tIsN, tNotN, tAndV, tOrV, tNotV, putF, List.lookup, List.any_cons, List.any_nil, Sum.inr.injEq, HO.ins.injEq, HO.dK.injEq, eq_self, beq_self_eq_true, beq_iff_eq, decide_true, decide_false, Bool.or_true, Bool.true_or, Bool.or_false, Bool.false_or, tYes, rEq, rNe, _root_.L2.start, wipe, List.map_cons, List.map_nil, List.length_cons, List.length_nil, List.append_nil, Nat.reduceAdd, Nat.reduceSub, List.replicate_succ, List.replicate_zero, List.cons_append, List.nil_append, List.getElem?_cons_zero, List.getElem?_cons_succ, List.set_cons_zero, List.set_cons_succ, Option.some.injEq, V.int.injEq, V.ref.injEq, V.bl.injEq, V.str.injEq, List.cons.injEq, HO.lst.injEq, HO.tup.injEq, and_assoc, and_true, true_and, exists_eq_left, exists_eq_left', exists_and_left, exists_eq, reduceCtorEq, false_and, and_false, or_false, false_or, exists_false, decide_eq_true_eq, CPow, CDivW, Int.reducePow, Int.reduceLT, Int.reduceLE, Int.reduceNeg, Int.reduceToNat, Int.reduceAbs, Nat.reducePow, Nat.reduceLT, Nat.reduceLeDiff, sizeLine_eq, Int.reduceMul, Int.reduceAdd, Int.reduceSub, Bool.not_eq_true', decide_eq_false_iff_not, scal, Bool.not_true, Bool.not_false, Bool.true_eq_false, Bool.false_eq_true, ite_false, ite_true, if_true, if_false, ite_self, forall_const, atI0, atI1, atI2, atI3, ixN20, ixN21, upd_same, upd_upd, Int.zero_add, CMul, Int.reduceSub, Nat.le_refl, Nat.zero_le, or_true, true_or, exists_const, Int.sub_zero, hd, modF_waiting, modF_turn, rSortD, hm])
    refine ⟨_, iwm, wDs_alike _, wDs_sortable _, wDs_depth _, fun q zs H1 hq s1 _ hz iz => ?_⟩
    rw [sortW_map] at iz
    have hd1 := s1 _ _ hd
    (try simp only [ne_0_1, ne_0_1b, ne_0_5, ne_0_5b, ne_0_6, ne_0_6b, ne_0_7, ne_0_7b, ne_1_0, ne_1_0b, ne_1_2, ne_1_2b, ne_1_3, ne_1_3b, ne_1_4, ne_1_4b, ne_1_5, ne_1_5b, ne_1_6, ne_1_6b, ne_1_7, ne_1_7b, ne_1_8, ne_1_8b, ne_2_1, ne_2_1b, ne_2_5, ne_2_5b, ne_2_6, ne_2_6b, ne_2_7, ne_2_7b, ne_3_1, ne_3_1b, ne_3_5, ne_3_5b, ne_3_6, ne_3_6b, ne_3_7, ne_3_7b, ne_4_1, ne_4_1b, ne_4_5, ne_4_5b, ne_4_6, ne_4_6b, ne_4_7, ne_4_7b, ne_5_0, ne_5_0b, ne_5_1, ne_5_1b, ne_5_2, ne_5_2b, ne_5_3, ne_5_3b, ne_5_4, ne_5_4b, ne_5_6, ne_5_6b, ne_5_7, ne_5_7b, ne_5_8, ne_5_8b, ne_6_0, ne_6_0b, ne_6_1, ne_6_1b, ne_6_2, ne_6_2b, ne_6_3, ne_6_3b, ne_6_4, ne_6_4b, ne_6_5, ne_6_5b, ne_6_7, ne_6_7b, ne_6_8, ne_6_8b, ne_7_0, ne_7_0b, ne_7_1, ne_7_1b, ne_7_2, ne_7_2b, ne_7_3, ne_7_3b, ne_7_4, ne_7_4b, ne_7_5, ne_7_5b, ne_7_6, ne_7_6b, ne_7_8, ne_7_8b, ne_8_1, ne_8_1b, ne_8_5, ne_8_5b, ne_8_6, ne_8_6b, ne_8_7, ne_8_7b, cxOf, Cx.nox, Cx.wish, tSeq, tAsg, tC, gName, tIfS, tTest, tOp, tUn, rU, rI0, rI, tVar, tNext, tBreak, tRet, tRetN, tDrop, tLst, tTup, tCons, tNil, tCB, tB, tOr, tAnd, tNot, tIf, tCall, tFor_eq, tLc_eq, iRng1, iRng2, iList, iTup, gTup, gTupH, gUnlH, gCons, gNil, gSub, rSetL, rIxL, rIxT, rIxLH, rIxTH, rSlTS, rCatS, rTupS, rIsiH, rLenS, V.ty.injEq, tyS_non, tyS_bl, tyS_int, tyS_str, tyS_ref, tyO_l, tyO_t, tyO_d, tyO_dt, kit_ll, kit_tt, kit_bb, kit_ii, kit_ib, kit_bi, kit_nt, kit_it, kit_st, kit_bt, kit_lt, kit_dt, kit_ni, kit_si, kit_ti, kit_li, kit_di, kit_nb, kit_ns, kit_is, kit_bs, kit_ss, kit_ts, kit_ls, kit_ds, kit_dd, lenS_ref, lenO_l, lenO_t,  rAppend, tM1, rIxS, tSl, tPart, tNoPart, tBM, tBM0, tDGetS, sDPutS, tTruS, truO_l, truO_t, truS_ref, truS_non, truS_bl, truS_int, tFld, sFld, sFldAug, rAdd, tMeth, tMake, tMakeK, List.take_succ_cons, List.take_zero, List.drop_succ_cons, List.drop_zero, List.take_nil, tIsN, tNotN, tAndV, tOrV, tNotV, putF, List.lookup, List.any_cons, List.any_nil, Sum.inr.injEq, HO.ins.injEq, HO.dK.injEq, eq_self, beq_self_eq_true, beq_iff_eq, decide_true, decide_false, Bool.or_true, Bool.true_or, Bool.or_false, Bool.false_or, tYes, rEq, rNe, _root_.L2.start, wipe, List.map_cons, List.map_nil, List.length_cons, List.length_nil, List.append_nil, Nat.reduceAdd, Nat.reduceSub, List.replicate_succ, List.replicate_zero, List.cons_append, List.nil_append, List.getElem?_cons_zero, List.getElem?_cons_succ, List.set_cons_zero, List.set_cons_succ, Option.some.injEq, V.int.injEq, V.ref.injEq, V.bl.injEq, V.str.injEq, List.cons.injEq, HO.lst.injEq, HO.tup.injEq, and_assoc, and_true, true_and, exists_eq_left, exists_eq_left', exists_and_left, exists_eq, reduceCtorEq, false_and, and_false, or_false, false_or, exists_false, decide_eq_true_eq, CPow, CDivW, Int.reducePow, Int.reduceLT, Int.reduceLE, Int.reduceNeg, Int.reduceToNat, Int.reduceAbs, Nat.reducePow, Nat.reduceLT, Nat.reduceLeDiff, sizeLine_eq, Int.reduceMul, Int.reduceAdd, Int.reduceSub, Bool.not_eq_true', decide_eq_false_iff_not, scal, Bool.not_true, Bool.not_false, Bool.true_eq_false, Bool.false_eq_true, ite_false, ite_true, if_true, if_false, ite_self, forall_const, atI0, atI1, atI2, atI3, ixN20, ixN21, upd_same, upd_upd, Int.zero_add, CMul, Int.reduceSub, Nat.le_refl, Nat.zero_le, or_true, true_or, exists_const, Int.sub_zero, hd1, modF_turn, hz])
    intro D hD
    have nDq : D ≠ q := (ne_of_none hz hD).symm
    have hzl := iz.len
    rw [List.length_map, sortW_len] at hzl
    (try simp only [ne_0_1, ne_0_1b, ne_0_5, ne_0_5b, ne_0_6, ne_0_6b, ne_0_7, ne_0_7b, ne_1_0, ne_1_0b, ne_1_2, ne_1_2b, ne_1_3, ne_1_3b, ne_1_4, ne_1_4b, ne_1_5, ne_1_5b, ne_1_6, ne_1_6b, ne_1_7, ne_1_7b, ne_1_8, ne_1_8b, ne_2_1, ne_2_1b, ne_2_5, ne_2_5b, ne_2_6, ne_2_6b, ne_2_7, ne_2_7b, ne_3_1, ne_3_1b, ne_3_5, ne_3_5b, ne_3_6, ne_3_6b, ne_3_7, ne_3_7b, ne_4_1, ne_4_1b, ne_4_5, ne_4_5b, ne_4_6, ne_4_6b, ne_4_7, ne_4_7b, ne_5_0, ne_5_0b, ne_5_1, ne_5_1b, ne_5_2, ne_5_2b, ne_5_3, ne_5_3b, ne_5_4, ne_5_4b, ne_5_6, ne_5_6b, ne_5_7, ne_5_7b, ne_5_8, ne_5_8b, ne_6_0, ne_6_0b, ne_6_1, ne_6_1b, ne_6_2, ne_6_2b, ne_6_3, ne_6_3b, ne_6_4, ne_6_4b, ne_6_5, ne_6_5b, ne_6_7, ne_6_7b, ne_6_8, ne_6_8b, ne_7_0, ne_7_0b, ne_7_1, ne_7_1b, ne_7_2, ne_7_2b, ne_7_3, ne_7_3b, ne_7_4, ne_7_4b, ne_7_5, ne_7_5b, ne_7_6, ne_7_6b, ne_7_8, ne_7_8b, ne_8_1, ne_8_1b, ne_8_5, ne_8_5b, ne_8_6, ne_8_6b, ne_8_7, ne_8_7b, cxOf, Cx.nox, Cx.wish, tSeq, tAsg, tC, gName, tIfS, tTest, tOp, tUn, rU, rI0, rI, tVar, tNext, tBreak, tRet, tRetN, tDrop, tLst, tTup, tCons, tNil, tCB, tB, tOr, tAnd, tNot, tIf, tCall, tFor_eq, tLc_eq, iRng1, iRng2, iList, iTup, gTup, gTupH, gUnlH, gCons, gNil, gSub, rSetL, rIxL, rIxT, rIxLH, rIxTH, rSlTS, rCatS, rTupS, rIsiH, rLenS, V.ty.injEq, tyS_non, tyS_bl, tyS_int, tyS_str, tyS_ref, tyO_l, tyO_t, tyO_d, tyO_dt, kit_ll, kit_tt, kit_bb, kit_ii, kit_ib, kit_bi, kit_nt, kit_it, kit_st, kit_bt, kit_lt, kit_dt, kit_ni, kit_si, kit_ti, kit_li, kit_di, kit_nb, kit_ns, kit_is, kit_bs, kit_ss, kit_ts, kit_ls, kit_ds, kit_dd, lenS_ref, lenO_l, lenO_t,  rAppend, tM1, rIxS, tSl, tPart, tNoPart, tBM, tBM0, tDGetS, sDPutS, tTruS, truO_l, truO_t, truS_ref, truS_non, truS_bl, truS_int, tFld, sFld, sFldAug, rAdd, tMeth, tMake, tMakeK, List.take_succ_cons, List.take_zero, List.drop_succ_cons, List.drop_zero, List.take_nil, tIsN, tNotN, tAndV, tOrV, tNotV, putF, List.lookup, List.any_cons, List.any_nil, Sum.inr.injEq, HO.ins.injEq, HO.dK.injEq, eq_self, beq_self_eq_true, beq_iff_eq, decide_true, decide_false, Bool.or_true, Bool.true_or, Bool.or_false, Bool.false_or, tYes, rEq, rNe, _root_.L2.start, wipe, List.map_cons, List.map_nil, List.length_cons, List.length_nil, List.append_nil, Nat.reduceAdd, Nat.reduceSub, List.replicate_succ, List.replicate_zero, List.cons_append, List.nil_append, List.getElem?_cons_zero, List.getElem?_cons_succ, List.set_cons_zero, List.set_cons_succ, Option.some.injEq, V.int.injEq, V.ref.injEq, V.bl.injEq, V.str.injEq, List.cons.injEq, HO.lst.injEq, HO.tup.injEq, and_assoc, and_true, true_and, exists_eq_left, exists_eq_left', exists_and_left, exists_eq, reduceCtorEq, false_and, and_false, or_false, false_or, exists_false, decide_eq_true_eq, CPow, CDivW, Int.reducePow, Int.reduceLT, Int.reduceLE, Int.reduceNeg, Int.reduceToNat, Int.reduceAbs, Nat.reducePow, Nat.reduceLT, Nat.reduceLeDiff, sizeLine_eq, Int.reduceMul, Int.reduceAdd, Int.reduceSub, Bool.not_eq_true', decide_eq_false_iff_not, scal, Bool.not_true, Bool.not_false, Bool.true_eq_false, Bool.false_eq_true, ite_false, ite_true, if_true, if_false, ite_self, forall_const, atI0, atI1, atI2, atI3, ixN20, ixN21, upd_same, upd_upd, Int.zero_add, CMul, Int.reduceSub, Nat.le_refl, Nat.zero_le, or_true, true_or, exists_const, Int.sub_zero, upd_ne nDq.symm, hz])
    refine ⟨by omega, by omega, ?_⟩
    rw [show ((zs.length : Int) + 1).toNat = S0.waiting.length + 1 by omega]
    refine Loop.rangeB (fun k σ H' => ∃ (l1 m1 : Addr) (S : LS) (held : List Who) (xs : List V) (b5 b6 : Option V), σ = [some (.ref p), some (.ref d), some (.ref q), some (.int S0.turn), some (.ref D), b5, b6, none] ∧ EmpAt T.C_Lock H H' p l d m q D zs S0 k l1 m1 S held xs)
      (fun σ H' => ∃ (k : Nat) (l1 m1 : Addr) (S : LS) (held : List Who) (xs : List V) (b5 b6 : Option V), σ = [some (.ref p), some (.ref d), some (.ref q), some (.int S0.turn), some (.ref D), b5, b6, none] ∧ EmpAt T.C_Lock H H' p l d m q D zs S0 k l1 m1 S held xs ∧ k ≤ 901 ∧ S.holder = none ∧ S.waiting = [] ∧ S.turn = S0.turn + held.length) ?_ ?_ ?_ ?_
    · refine ⟨l, m, S0, [], [], none, none, rfl, (B.same s1).same (same_new hD), Emp.start hnd, hinv, upd_same, im_nil, get_new hD hz, imsNew hD iz, .inl rfl, .inl rfl, (ne_of_none (s1 _ _ hl) hD).symm, (ne_of_none (s1 _ _ hm) hD).symm, (ne_of_none hl hq).symm, (ne_of_none hm hq).symm, Same.non s1 hD, fun b o e _ _ _ _ => get_new hD (s1 _ _ e), fun b e => Same.non s1 (upd_none e).2⟩
    · rintro σ H2 ⟨k, l1, m1, S, held, xs, b5, b6, rfl, E, hk, e1, e2, e3⟩
      obtain ⟨dx2, hv2, ws2, hp2, ih2, hl2, iw2⟩ := id E.bo.lk
      rw [e1] at ih2
      have := hD_none ih2
      subst this
      (try simp only [ne_0_1, ne_0_1b, ne_0_5, ne_0_5b, ne_0_6, ne_0_6b, ne_0_7, ne_0_7b, ne_1_0, ne_1_0b, ne_1_2, ne_1_2b, ne_1_3, ne_1_3b, ne_1_4, ne_1_4b, ne_1_5, ne_1_5b, ne_1_6, ne_1_6b, ne_1_7, ne_1_7b, ne_1_8, ne_1_8b, ne_2_1, ne_2_1b, ne_2_5, ne_2_5b, ne_2_6, ne_2_6b, ne_2_7, ne_2_7b, ne_3_1, ne_3_1b, ne_3_5, ne_3_5b, ne_3_6, ne_3_6b, ne_3_7, ne_3_7b, ne_4_1, ne_4_1b, ne_4_5, ne_4_5b, ne_4_6, ne_4_6b, ne_4_7, ne_4_7b, ne_5_0, ne_5_0b, ne_5_1, ne_5_1b, ne_5_2, ne_5_2b, ne_5_3, ne_5_3b, ne_5_4, ne_5_4b, ne_5_6, ne_5_6b, ne_5_7, ne_5_7b, ne_5_8, ne_5_8b, ne_6_0, ne_6_0b, ne_6_1, ne_6_1b, ne_6_2, ne_6_2b, ne_6_3, ne_6_3b, ne_6_4, ne_6_4b, ne_6_5, ne_6_5b, ne_6_7, ne_6_7b, ne_6_8, ne_6_8b, ne_7_0, ne_7_0b, ne_7_1, ne_7_1b, ne_7_2, ne_7_2b, ne_7_3, ne_7_3b, ne_7_4, ne_7_4b, ne_7_5, ne_7_5b, ne_7_6, ne_7_6b, ne_7_8, ne_7_8b, ne_8_1, ne_8_1b, ne_8_5, ne_8_5b, ne_8_6, ne_8_6b, ne_8_7, ne_8_7b, cxOf, Cx.nox, Cx.wish, tSeq, tAsg, tC, gName, tIfS, tTest, tOp, tUn, rU, rI0, rI, tVar, tNext, tBreak, tRet, tRetN, tDrop, tLst, tTup, tCons, tNil, tCB, tB, tOr, tAnd, tNot, tIf, tCall, tFor_eq, tLc_eq, iRng1, iRng2, iList, iTup, gTup, gTupH, gUnlH, gCons, gNil, gSub, rSetL, rIxL, rIxT, rIxLH, rIxTH, rSlTS, rCatS, rTupS, rIsiH, rLenS, V.ty.injEq, tyS_non, tyS_bl, tyS_int, tyS_str, tyS_ref, tyO_l, tyO_t, tyO_d, tyO_dt, kit_ll, kit_tt, kit_bb, kit_ii, kit_ib, kit_bi, kit_nt, kit_it, kit_st, kit_bt, kit_lt, kit_dt, kit_ni, kit_si, kit_ti, kit_li, kit_di, kit_nb, kit_ns, kit_is, kit_bs, kit_ss, kit_ts, kit_ls, kit_ds, kit_dd, lenS_ref, lenO_l, lenO_t,  rAppend, tM1, rIxS, tSl, tPart, tNoPart, tBM, tBM0, tDGetS, sDPutS, tTruS, truO_l, truO_t, truS_ref, truS_non, truS_bl, truS_int, tFld, sFld, sFldAug, rAdd, tMeth, tMake, tMakeK, List.take_succ_cons, List.take_zero, List.drop_succ_cons, List.drop_zero, List.take_nil, tIsN, tNotN, tAndV, tOrV, tNotV, putF, List.lookup, List.any_cons, List.any_nil, Sum.inr.injEq, HO.ins.injEq, HO.dK.injEq, eq_self, beq_self_eq_true, beq_iff_eq, decide_true, decide_false, Bool.or_true, Bool.true_or, Bool.or_false, Bool.false_or, tYes, rEq, rNe, _root_.L2.start, wipe, List.map_cons, List.map_nil, List.length_cons, List.length_nil, List.append_nil, Nat.reduceAdd, Nat.reduceSub, List.replicate_succ, List.replicate_zero, List.cons_append, List.nil_append, List.getElem?_cons_zero, List.getElem?_cons_succ, List.set_cons_zero, List.set_cons_succ, Option.some.injEq, V.int.injEq, V.ref.injEq, V.bl.injEq, V.str.injEq, List.cons.injEq, HO.lst.injEq, HO.tup.injEq, and_assoc, and_true, true_and, exists_eq_left, exists_eq_left', exists_and_left, exists_eq, reduceCtorEq, false_and, and_false, or_false, false_or, exists_false, decide_eq_true_eq, CPow, CDivW, Int.reducePow, Int.reduceLT, Int.reduceLE, Int.reduceNeg, Int.reduceToNat, Int.reduceAbs, Nat.reducePow, Nat.reduceLT, Nat.reduceLeDiff, sizeLine_eq, Int.reduceMul, Int.reduceAdd, Int.reduceSub, Bool.not_eq_true', decide_eq_false_iff_not, scal, Bool.not_true, Bool.not_false, Bool.true_eq_false, Bool.false_eq_true, ite_false, ite_true, if_true, if_false, ite_self, forall_const, atI0, atI1, atI2, atI3, ixN20, ixN21, upd_same, upd_upd, Int.zero_add, CMul, Int.reduceSub, Nat.le_refl, Nat.zero_le, or_true, true_or, exists_const, Int.sub_zero, hp2, lockF, T.cl_Lock, T.n_Lock_holder, sp_Lock_waiting])
      refine ⟨l1, S, E.bo.lk, fun w1 z1 H3 hw1 s3 _ hz1 iz1 => ?_⟩
      rw [e2, sortW_id List.Pairwise.nil] at iz1
      have h0 := iz1
      simp only [List.map_nil, ImAll] at h0
      subst h0
      (try simp only [ne_0_1, ne_0_1b, ne_0_5, ne_0_5b, ne_0_6, ne_0_6b, ne_0_7, ne_0_7b, ne_1_0, ne_1_0b, ne_1_2, ne_1_2b, ne_1_3, ne_1_3b, ne_1_4, ne_1_4b, ne_1_5, ne_1_5b, ne_1_6, ne_1_6b, ne_1_7, ne_1_7b, ne_1_8, ne_1_8b, ne_2_1, ne_2_1b, ne_2_5, ne_2_5b, ne_2_6, ne_2_6b, ne_2_7, ne_2_7b, ne_3_1, ne_3_1b, ne_3_5, ne_3_5b, ne_3_6, ne_3_6b, ne_3_7, ne_3_7b, ne_4_1, ne_4_1b, ne_4_5, ne_4_5b, ne_4_6, ne_4_6b, ne_4_7, ne_4_7b, ne_5_0, ne_5_0b, ne_5_1, ne_5_1b, ne_5_2, ne_5_2b, ne_5_3, ne_5_3b, ne_5_4, ne_5_4b, ne_5_6, ne_5_6b, ne_5_7, ne_5_7b, ne_5_8, ne_5_8b, ne_6_0, ne_6_0b, ne_6_1, ne_6_1b, ne_6_2, ne_6_2b, ne_6_3, ne_6_3b, ne_6_4, ne_6_4b, ne_6_5, ne_6_5b, ne_6_7, ne_6_7b, ne_6_8, ne_6_8b, ne_7_0, ne_7_0b, ne_7_1, ne_7_1b, ne_7_2, ne_7_2b, ne_7_3, ne_7_3b, ne_7_4, ne_7_4b, ne_7_5, ne_7_5b, ne_7_6, ne_7_6b, ne_7_8, ne_7_8b, ne_8_1, ne_8_1b, ne_8_5, ne_8_5b, ne_8_6, ne_8_6b, ne_8_7, ne_8_7b, cxOf, Cx.nox, Cx.wish, tSeq, tAsg, tC, gName, tIfS, tTest, tOp, tUn, rU, rI0, rI, tVar, tNext, tBreak, tRet, tRetN, tDrop, tLst, tTup, tCons, tNil, tCB, tB, tOr, tAnd, tNot, tIf, tCall, tFor_eq, tLc_eq, iRng1, iRng2, iList, iTup, gTup, gTupH, gUnlH, gCons, gNil, gSub, rSetL, rIxL, rIxT, rIxLH, rIxTH, rSlTS, rCatS, rTupS, rIsiH, rLenS, V.ty.injEq, tyS_non, tyS_bl, tyS_int, tyS_str, tyS_ref, tyO_l, tyO_t, tyO_d, tyO_dt, kit_ll, kit_tt, kit_bb, kit_ii, kit_ib, kit_bi, kit_nt, kit_it, kit_st, kit_bt, kit_lt, kit_dt, kit_ni, kit_si, kit_ti, kit_li, kit_di, kit_nb, kit_ns, kit_is, kit_bs, kit_ss, kit_ts, kit_ls, kit_ds, kit_dd, lenS_ref, lenO_l, lenO_t,  rAppend, tM1, rIxS, tSl, tPart, tNoPart, tBM, tBM0, tDGetS, sDPutS, tTruS, truO_l, truO_t, truS_ref, truS_non, truS_bl, truS_int, tFld, sFld, sFldAug, rAdd, tMeth, tMake, tMakeK, List.take_succ_cons, List.take_zero, List.drop_succ_cons, List.drop_zero, List.take_nil, tIsN, tNotN, tAndV, tOrV, tNotV, putF, List.lookup, List.any_cons, List.any_nil, Sum.inr.injEq, HO.ins.injEq, HO.dK.injEq, eq_self, beq_self_eq_true, beq_iff_eq, decide_true, decide_false, Bool.or_true, Bool.true_or, Bool.or_false, Bool.false_or, tYes, rEq, rNe, _root_.L2.start, wipe, List.map_cons, List.map_nil, List.length_cons, List.length_nil, List.append_nil, Nat.reduceAdd, Nat.reduceSub, List.replicate_succ, List.replicate_zero, List.cons_append, List.nil_append, List.getElem?_cons_zero, List.getElem?_cons_succ, List.set_cons_zero, List.set_cons_succ, Option.some.injEq, V.int.injEq, V.ref.injEq, V.bl.injEq, V.str.injEq, List.cons.injEq, HO.lst.injEq, HO.tup.injEq, and_assoc, and_true, true_and, exists_eq_left, exists_eq_left', exists_and_left, exists_eq, reduceCtorEq, false_and, and_false, or_false, false_or, exists_false, decide_eq_true_eq, CPow, CDivW, Int.reducePow, Int.reduceLT, Int.reduceLE, Int.reduceNeg, Int.reduceToNat, Int.reduceAbs, Nat.reducePow, Nat.reduceLT, Nat.reduceLeDiff, sizeLine_eq, Int.reduceMul, Int.reduceAdd, Int.reduceSub, Bool.not_eq_true', decide_eq_false_iff_not, scal, Bool.not_true, Bool.not_false, Bool.true_eq_false, Bool.false_eq_true, ite_false, ite_true, if_true, if_false, ite_self, forall_const, atI0, atI1, atI2, atI3, ixN20, ixN21, upd_same, upd_upd, Int.zero_add, CMul, Int.reduceSub, Nat.le_refl, Nat.zero_le, or_true, true_or, exists_const, Int.sub_zero, rNeD])
      intro w2 hw2
      refine ⟨_, .lst (SqL.of (get_new hw2 hz1)) (ImAll.dp _ _ (imsNew hw2 iz1)), _, .lst (SqL.of upd_same) (ImAll.dp _ _ im_nil), wDs_shaped [], wDs_shaped [], ?_⟩
      rw [show PyData.eqv (.list (List.map wD [])) (.list []) = true from rfl]
      have s4 : Same H2 (upd H3 w2 (.lst [])) := s3.trans (same_new hw2)
      have n4 : ∀ b, upd H3 w2 (.lst []) b = none → H b = none := fun b e => E.nn b (Same.non s4 e)
      generalize upd H3 w2 (.lst []) = H4 at s4 n4
      have hp4 := s4 _ _ hp2
      have hD4 := s4 _ _ E.hD
      have hxl := E.ix.len
      rw [List.length_map] at hxl
      (try simp only [ne_0_1, ne_0_1b, ne_0_5, ne_0_5b, ne_0_6, ne_0_6b, ne_0_7, ne_0_7b, ne_1_0, ne_1_0b, ne_1_2, ne_1_2b, ne_1_3, ne_1_3b, ne_1_4, ne_1_4b, ne_1_5, ne_1_5b, ne_1_6, ne_1_6b, ne_1_7, ne_1_7b, ne_1_8, ne_1_8b, ne_2_1, ne_2_1b, ne_2_5, ne_2_5b, ne_2_6, ne_2_6b, ne_2_7, ne_2_7b, ne_3_1, ne_3_1b, ne_3_5, ne_3_5b, ne_3_6, ne_3_6b, ne_3_7, ne_3_7b, ne_4_1, ne_4_1b, ne_4_5, ne_4_5b, ne_4_6, ne_4_6b, ne_4_7, ne_4_7b, ne_5_0, ne_5_0b, ne_5_1, ne_5_1b, ne_5_2, ne_5_2b, ne_5_3, ne_5_3b, ne_5_4, ne_5_4b, ne_5_6, ne_5_6b, ne_5_7, ne_5_7b, ne_5_8, ne_5_8b, ne_6_0, ne_6_0b, ne_6_1, ne_6_1b, ne_6_2, ne_6_2b, ne_6_3, ne_6_3b, ne_6_4, ne_6_4b, ne_6_5, ne_6_5b, ne_6_7, ne_6_7b, ne_6_8, ne_6_8b, ne_7_0, ne_7_0b, ne_7_1, ne_7_1b, ne_7_2, ne_7_2b, ne_7_3, ne_7_3b, ne_7_4, ne_7_4b, ne_7_5, ne_7_5b, ne_7_6, ne_7_6b, ne_7_8, ne_7_8b, ne_8_1, ne_8_1b, ne_8_5, ne_8_5b, ne_8_6, ne_8_6b, ne_8_7, ne_8_7b, cxOf, Cx.nox, Cx.wish, tSeq, tAsg, tC, gName, tIfS, tTest, tOp, tUn, rU, rI0, rI, tVar, tNext, tBreak, tRet, tRetN, tDrop, tLst, tTup, tCons, tNil, tCB, tB, tOr, tAnd, tNot, tIf, tCall, tFor_eq, tLc_eq, iRng1, iRng2, iList, iTup, gTup, gTupH, gUnlH, gCons, gNil, gSub, rSetL, rIxL, rIxT, rIxLH, rIxTH, rSlTS, rCatS, rTupS, rIsiH, rLenS, V.ty.injEq, tyS_non, tyS_bl, tyS_int, tyS_str, tyS_ref, tyO_l, tyO_t, tyO_d, tyO_dt, kit_ll, kit_tt, kit_bb, kit_ii, kit_ib, kit_bi, kit_nt, kit_it, kit_st, kit_bt, kit_lt, kit_dt, kit_ni, kit_si, kit_ti, kit_li, kit_di, kit_nb, kit_ns, kit_is, kit_bs, kit_ss, kit_ts, kit_ls, kit_ds, kit_dd, lenS_ref, lenO_l, lenO_t,  rAppend, tM1, rIxS, tSl, tPart, tNoPart, tBM, tBM0, tDGetS, sDPutS, tTruS, truO_l, truO_t, truS_ref, truS_non, truS_bl, truS_int, tFld, sFld, sFldAug, rAdd, tMeth, tMake, tMakeK, List.take_succ_cons, List.take_zero, List.drop_succ_cons, List.drop_zero, List.take_nil, tIsN, tNotN, tAndV, tOrV, tNotV, putF, List.lookup, List.any_cons, List.any_nil, Sum.inr.injEq, HO.ins.injEq, HO.dK.injEq, eq_self, beq_self_eq_true, beq_iff_eq, decide_true, decide_false, Bool.or_true, Bool.true_or, Bool.or_false, Bool.false_or, tYes, rEq, rNe, _root_.L2.start, wipe, List.map_cons, List.map_nil, List.length_cons, List.length_nil, List.append_nil, Nat.reduceAdd, Nat.reduceSub, List.replicate_succ, List.replicate_zero, List.cons_append, List.nil_append, List.getElem?_cons_zero, List.getElem?_cons_succ, List.set_cons_zero, List.set_cons_succ, Option.some.injEq, V.int.injEq, V.ref.injEq, V.bl.injEq, V.str.injEq, List.cons.injEq, HO.lst.injEq, HO.tup.injEq, and_assoc, and_true, true_and, exists_eq_left, exists_eq_left', exists_and_left, exists_eq, reduceCtorEq, false_and, and_false, or_false, false_or, exists_false, decide_eq_true_eq, CPow, CDivW, Int.reducePow, Int.reduceLT, Int.reduceLE, Int.reduceNeg, Int.reduceToNat, Int.reduceAbs, Nat.reducePow, Nat.reduceLT, Nat.reduceLeDiff, sizeLine_eq, Int.reduceMul, Int.reduceAdd, Int.reduceSub, Bool.not_eq_true', decide_eq_false_iff_not, scal, Bool.not_true, Bool.not_false, Bool.true_eq_false, Bool.false_eq_true, ite_false, ite_true, if_true, if_false, ite_self, forall_const, atI0, atI1, atI2, atI3, ixN20, ixN21, upd_same, upd_upd, Int.zero_add, CMul, Int.reduceSub, Nat.le_refl, Nat.zero_le, or_true, true_or, exists_const, Int.sub_zero, hp4, lockF, T.cl_Lock, T.n_Lock_turn, hD4, sp_law_is])
      rw [if_neg (fun h => h (by rw [e3]; omega))]
      have ix4 := Same.ims s4 E.ix
      (try simp only [ne_0_1, ne_0_1b, ne_0_5, ne_0_5b, ne_0_6, ne_0_6b, ne_0_7, ne_0_7b, ne_1_0, ne_1_0b, ne_1_2, ne_1_2b, ne_1_3, ne_1_3b, ne_1_4, ne_1_4b, ne_1_5, ne_1_5b, ne_1_6, ne_1_6b, ne_1_7, ne_1_7b, ne_1_8, ne_1_8b, ne_2_1, ne_2_1b, ne_2_5, ne_2_5b, ne_2_6, ne_2_6b, ne_2_7, ne_2_7b, ne_3_1, ne_3_1b, ne_3_5, ne_3_5b, ne_3_6, ne_3_6b, ne_3_7, ne_3_7b, ne_4_1, ne_4_1b, ne_4_5, ne_4_5b, ne_4_6, ne_4_6b, ne_4_7, ne_4_7b, ne_5_0, ne_5_0b, ne_5_1, ne_5_1b, ne_5_2, ne_5_2b, ne_5_3, ne_5_3b, ne_5_4, ne_5_4b, ne_5_6, ne_5_6b, ne_5_7, ne_5_7b, ne_5_8, ne_5_8b, ne_6_0, ne_6_0b, ne_6_1, ne_6_1b, ne_6_2, ne_6_2b, ne_6_3, ne_6_3b, ne_6_4, ne_6_4b, ne_6_5, ne_6_5b, ne_6_7, ne_6_7b, ne_6_8, ne_6_8b, ne_7_0, ne_7_0b, ne_7_1, ne_7_1b, ne_7_2, ne_7_2b, ne_7_3, ne_7_3b, ne_7_4, ne_7_4b, ne_7_5, ne_7_5b, ne_7_6, ne_7_6b, ne_7_8, ne_7_8b, ne_8_1, ne_8_1b, ne_8_5, ne_8_5b, ne_8_6, ne_8_6b, ne_8_7, ne_8_7b, cxOf, Cx.nox, Cx.wish, tSeq, tAsg, tC, gName, tIfS, tTest, tOp, tUn, rU, rI0, rI, tVar, tNext, tBreak, tRet, tRetN, tDrop, tLst, tTup, tCons, tNil, tCB, tB, tOr, tAnd, tNot, tIf, tCall, tFor_eq, tLc_eq, iRng1, iRng2, iList, iTup, gTup, gTupH, gUnlH, gCons, gNil, gSub, rSetL, rIxL, rIxT, rIxLH, rIxTH, rSlTS, rCatS, rTupS, rIsiH, rLenS, V.ty.injEq, tyS_non, tyS_bl, tyS_int, tyS_str, tyS_ref, tyO_l, tyO_t, tyO_d, tyO_dt, kit_ll, kit_tt, kit_bb, kit_ii, kit_ib, kit_bi, kit_nt, kit_it, kit_st, kit_bt, kit_lt, kit_dt, kit_ni, kit_si, kit_ti, kit_li, kit_di, kit_nb, kit_ns, kit_is, kit_bs, kit_ss, kit_ts, kit_ls, kit_ds, kit_dd, lenS_ref, lenO_l, lenO_t,  rAppend, tM1, rIxS, tSl, tPart, tNoPart, tBM, tBM0, tDGetS, sDPutS, tTruS, truO_l, truO_t, truS_ref, truS_non, truS_bl, truS_int, tFld, sFld, sFldAug, rAdd, tMeth, tMake, tMakeK, List.take_succ_cons, List.take_zero, List.drop_succ_cons, List.drop_zero, List.take_nil, tIsN, tNotN, tAndV, tOrV, tNotV, putF, List.lookup, List.any_cons, List.any_nil, Sum.inr.injEq, HO.ins.injEq, HO.dK.injEq, eq_self, beq_self_eq_true, beq_iff_eq, decide_true, decide_false, Bool.or_true, Bool.true_or, Bool.or_false, Bool.false_or, tYes, rEq, rNe, _root_.L2.start, wipe, List.map_cons, List.map_nil, List.length_cons, List.length_nil, List.append_nil, Nat.reduceAdd, Nat.reduceSub, List.replicate_succ, List.replicate_zero, List.cons_append, List.nil_append, List.getElem?_cons_zero, List.getElem?_cons_succ, List.set_cons_zero, List.set_cons_succ, Option.some.injEq, V.int.injEq, V.ref.injEq, V.bl.injEq, V.str.injEq, List.cons.injEq, HO.lst.injEq, HO.tup.injEq, and_assoc, and_true, true_and, exists_eq_left, exists_eq_left', exists_and_left, exists_eq, reduceCtorEq, false_and, and_false, or_false, false_or, exists_false, decide_eq_true_eq, CPow, CDivW, Int.reducePow, Int.reduceLT, Int.reduceLE, Int.reduceNeg, Int.reduceToNat, Int.reduceAbs, Nat.reducePow, Nat.reduceLT, Nat.reduceLeDiff, sizeLine_eq, Int.reduceMul, Int.reduceAdd, Int.reduceSub, Bool.not_eq_true', decide_eq_false_iff_not, scal, Bool.not_true, Bool.not_false, Bool.true_eq_false, Bool.false_eq_true, ite_false, ite_true, if_true, if_false, ite_self, forall_const, atI0, atI1, atI2, atI3, ixN20, ixN21, upd_same, upd_upd, Int.zero_add, CMul, Int.reduceSub, Nat.le_refl, Nat.zero_le, or_true, true_or, exists_const, Int.sub_zero, rSortD, hD4])
      refine ⟨_, ix4, wDs_alike _, wDs_sortable _, wDs_depth _, fun w5 z5 H5 hw5 s5 _ hz5 iz5 => ?_⟩
      rw [sortW_map, sortW_id E.em.srt] at iz5
      have hD5 := s5 _ _ hD4
      refine ⟨_, _, .lst (SqL.of hD5) (ImAll.dp _ _ (Same.ims s5 ix4)), .lst (SqL.of hz5) (ImAll.dp _ _ iz5), wDs_shaped _, wDs_shaped _, ?_⟩
      rw [SeqAt.eqv_refl _ (SeqAt.canLay_of_shaped (wDs_shaped _))]
      (try simp only [ne_0_1, ne_0_1b, ne_0_5, ne_0_5b, ne_0_6, ne_0_6b, ne_0_7, ne_0_7b, ne_1_0, ne_1_0b, ne_1_2, ne_1_2b, ne_1_3, ne_1_3b, ne_1_4, ne_1_4b, ne_1_5, ne_1_5b, ne_1_6, ne_1_6b, ne_1_7, ne_1_7b, ne_1_8, ne_1_8b, ne_2_1, ne_2_1b, ne_2_5, ne_2_5b, ne_2_6, ne_2_6b, ne_2_7, ne_2_7b, ne_3_1, ne_3_1b, ne_3_5, ne_3_5b, ne_3_6, ne_3_6b, ne_3_7, ne_3_7b, ne_4_1, ne_4_1b, ne_4_5, ne_4_5b, ne_4_6, ne_4_6b, ne_4_7, ne_4_7b, ne_5_0, ne_5_0b, ne_5_1, ne_5_1b, ne_5_2, ne_5_2b, ne_5_3, ne_5_3b, ne_5_4, ne_5_4b, ne_5_6, ne_5_6b, ne_5_7, ne_5_7b, ne_5_8, ne_5_8b, ne_6_0, ne_6_0b, ne_6_1, ne_6_1b, ne_6_2, ne_6_2b, ne_6_3, ne_6_3b, ne_6_4, ne_6_4b, ne_6_5, ne_6_5b, ne_6_7, ne_6_7b, ne_6_8, ne_6_8b, ne_7_0, ne_7_0b, ne_7_1, ne_7_1b, ne_7_2, ne_7_2b, ne_7_3, ne_7_3b, ne_7_4, ne_7_4b, ne_7_5, ne_7_5b, ne_7_6, ne_7_6b, ne_7_8, ne_7_8b, ne_8_1, ne_8_1b, ne_8_5, ne_8_5b, ne_8_6, ne_8_6b, ne_8_7, ne_8_7b, cxOf, Cx.nox, Cx.wish, tSeq, tAsg, tC, gName, tIfS, tTest, tOp, tUn, rU, rI0, rI, tVar, tNext, tBreak, tRet, tRetN, tDrop, tLst, tTup, tCons, tNil, tCB, tB, tOr, tAnd, tNot, tIf, tCall, tFor_eq, tLc_eq, iRng1, iRng2, iList, iTup, gTup, gTupH, gUnlH, gCons, gNil, gSub, rSetL, rIxL, rIxT, rIxLH, rIxTH, rSlTS, rCatS, rTupS, rIsiH, rLenS, V.ty.injEq, tyS_non, tyS_bl, tyS_int, tyS_str, tyS_ref, tyO_l, tyO_t, tyO_d, tyO_dt, kit_ll, kit_tt, kit_bb, kit_ii, kit_ib, kit_bi, kit_nt, kit_it, kit_st, kit_bt, kit_lt, kit_dt, kit_ni, kit_si, kit_ti, kit_li, kit_di, kit_nb, kit_ns, kit_is, kit_bs, kit_ss, kit_ts, kit_ls, kit_ds, kit_dd, lenS_ref, lenO_l, lenO_t,  rAppend, tM1, rIxS, tSl, tPart, tNoPart, tBM, tBM0, tDGetS, sDPutS, tTruS, truO_l, truO_t, truS_ref, truS_non, truS_bl, truS_int, tFld, sFld, sFldAug, rAdd, tMeth, tMake, tMakeK, List.take_succ_cons, List.take_zero, List.drop_succ_cons, List.drop_zero, List.take_nil, tIsN, tNotN, tAndV, tOrV, tNotV, putF, List.lookup, List.any_cons, List.any_nil, Sum.inr.injEq, HO.ins.injEq, HO.dK.injEq, eq_self, beq_self_eq_true, beq_iff_eq, decide_true, decide_false, Bool.or_true, Bool.true_or, Bool.or_false, Bool.false_or, tYes, rEq, rNe, _root_.L2.start, wipe, List.map_cons, List.map_nil, List.length_cons, List.length_nil, List.append_nil, Nat.reduceAdd, Nat.reduceSub, List.replicate_succ, List.replicate_zero, List.cons_append, List.nil_append, List.getElem?_cons_zero, List.getElem?_cons_succ, List.set_cons_zero, List.set_cons_succ, Option.some.injEq, V.int.injEq, V.ref.injEq, V.bl.injEq, V.str.injEq, List.cons.injEq, HO.lst.injEq, HO.tup.injEq, and_assoc, and_true, true_and, exists_eq_left, exists_eq_left', exists_and_left, exists_eq, reduceCtorEq, false_and, and_false, or_false, false_or, exists_false, decide_eq_true_eq, CPow, CDivW, Int.reducePow, Int.reduceLT, Int.reduceLE, Int.reduceNeg, Int.reduceToNat, Int.reduceAbs, Nat.reducePow, Nat.reduceLT, Nat.reduceLeDiff, sizeLine_eq, Int.reduceMul, Int.reduceAdd, Int.reduceSub, Bool.not_eq_true', decide_eq_false_iff_not, scal, Bool.not_true, Bool.not_false, Bool.true_eq_false, Bool.false_eq_true, ite_false, ite_true, if_true, if_false, ite_self, forall_const, atI0, atI1, atI2, atI3, ixN20, ixN21, upd_same, upd_upd, Int.zero_add, CMul, Int.reduceSub, Nat.le_refl, Nat.zero_le, or_true, true_or, exists_const, Int.sub_zero])
      refine ⟨⟨_, SqL.of hD5⟩, fun D6 hD6 => ?_⟩
      refine Lcl.list xs (fun j H6 => H6 D6 = some (.lst []) ∧ Same H5 H6) ⟨upd_same, same_new hD6⟩ (fun j H6 _ h => SqL.of (h.2 _ _ hD5)) ?_ ?_
      · rintro j x H6 hx ⟨h6, s6⟩
        obtain ⟨w, hw, ixw⟩ := ims_who (Same.ims s5 ix4) hx
        have s26 : Same H2 H6 := (s4.trans s5).trans s6
        have hq6 := s26 _ _ E.hq
        have iz6 := Same.ims s26 E.iz
        (try simp only [ne_0_1, ne_0_1b, ne_0_5, ne_0_5b, ne_0_6, ne_0_6b, ne_0_7, ne_0_7b, ne_1_0, ne_1_0b, ne_1_2, ne_1_2b, ne_1_3, ne_1_3b, ne_1_4, ne_1_4b, ne_1_5, ne_1_5b, ne_1_6, ne_1_6b, ne_1_7, ne_1_7b, ne_1_8, ne_1_8b, ne_2_1, ne_2_1b, ne_2_5, ne_2_5b, ne_2_6, ne_2_6b, ne_2_7, ne_2_7b, ne_3_1, ne_3_1b, ne_3_5, ne_3_5b, ne_3_6, ne_3_6b, ne_3_7, ne_3_7b, ne_4_1, ne_4_1b, ne_4_5, ne_4_5b, ne_4_6, ne_4_6b, ne_4_7, ne_4_7b, ne_5_0, ne_5_0b, ne_5_1, ne_5_1b, ne_5_2, ne_5_2b, ne_5_3, ne_5_3b, ne_5_4, ne_5_4b, ne_5_6, ne_5_6b, ne_5_7, ne_5_7b, ne_5_8, ne_5_8b, ne_6_0, ne_6_0b, ne_6_1, ne_6_1b, ne_6_2, ne_6_2b, ne_6_3, ne_6_3b, ne_6_4, ne_6_4b, ne_6_5, ne_6_5b, ne_6_7, ne_6_7b, ne_6_8, ne_6_8b, ne_7_0, ne_7_0b, ne_7_1, ne_7_1b, ne_7_2, ne_7_2b, ne_7_3, ne_7_3b, ne_7_4, ne_7_4b, ne_7_5, ne_7_5b, ne_7_6, ne_7_6b, ne_7_8, ne_7_8b, ne_8_1, ne_8_1b, ne_8_5, ne_8_5b, ne_8_6, ne_8_6b, ne_8_7, ne_8_7b, cxOf, Cx.nox, Cx.wish, tSeq, tAsg, tC, gName, tIfS, tTest, tOp, tUn, rU, rI0, rI, tVar, tNext, tBreak, tRet, tRetN, tDrop, tLst, tTup, tCons, tNil, tCB, tB, tOr, tAnd, tNot, tIf, tCall, tFor_eq, tLc_eq, iRng1, iRng2, iList, iTup, gTup, gTupH, gUnlH, gCons, gNil, gSub, rSetL, rIxL, rIxT, rIxLH, rIxTH, rSlTS, rCatS, rTupS, rIsiH, rLenS, V.ty.injEq, tyS_non, tyS_bl, tyS_int, tyS_str, tyS_ref, tyO_l, tyO_t, tyO_d, tyO_dt, kit_ll, kit_tt, kit_bb, kit_ii, kit_ib, kit_bi, kit_nt, kit_it, kit_st, kit_bt, kit_lt, kit_dt, kit_ni, kit_si, kit_ti, kit_li, kit_di, kit_nb, kit_ns, kit_is, kit_bs, kit_ss, kit_ts, kit_ls, kit_ds, kit_dd, lenS_ref, lenO_l, lenO_t,  rAppend, tM1, rIxS, tSl, tPart, tNoPart, tBM, tBM0, tDGetS, sDPutS, tTruS, truO_l, truO_t, truS_ref, truS_non, truS_bl, truS_int, tFld, sFld, sFldAug, rAdd, tMeth, tMake, tMakeK, List.take_succ_cons, List.take_zero, List.drop_succ_cons, List.drop_zero, List.take_nil, tIsN, tNotN, tAndV, tOrV, tNotV, putF, List.lookup, List.any_cons, List.any_nil, Sum.inr.injEq, HO.ins.injEq, HO.dK.injEq, eq_self, beq_self_eq_true, beq_iff_eq, decide_true, decide_false, Bool.or_true, Bool.true_or, Bool.or_false, Bool.false_or, tYes, rEq, rNe, _root_.L2.start, wipe, List.map_cons, List.map_nil, List.length_cons, List.length_nil, List.append_nil, Nat.reduceAdd, Nat.reduceSub, List.replicate_succ, List.replicate_zero, List.cons_append, List.nil_append, List.getElem?_cons_zero, List.getElem?_cons_succ, List.set_cons_zero, List.set_cons_succ, Option.some.injEq, V.int.injEq, V.ref.injEq, V.bl.injEq, V.str.injEq, List.cons.injEq, HO.lst.injEq, HO.tup.injEq, and_assoc, and_true, true_and, exists_eq_left, exists_eq_left', exists_and_left, exists_eq, reduceCtorEq, false_and, and_false, or_false, false_or, exists_false, decide_eq_true_eq, CPow, CDivW, Int.reducePow, Int.reduceLT, Int.reduceLE, Int.reduceNeg, Int.reduceToNat, Int.reduceAbs, Nat.reducePow, Nat.reduceLT, Nat.reduceLeDiff, sizeLine_eq, Int.reduceMul, Int.reduceAdd, Int.reduceSub, Bool.not_eq_true', decide_eq_false_iff_not, scal, Bool.not_true, Bool.not_false, Bool.true_eq_false, Bool.false_eq_true, ite_false, ite_true, if_true, if_false, ite_self, forall_const, atI0, atI1, atI2, atI3, ixN20, ixN21, upd_same, upd_upd, Int.zero_add, CMul, Int.reduceSub, Nat.le_refl, Nat.zero_le, or_true, true_or, exists_const, Int.sub_zero, hq6, rNotInD])
        refine ⟨_, Im.dp _ _ (Same.im s6 ixw), _, .lst (SqL.of hq6) (ImAll.dp _ _ iz6), wD_shaped _, wDs_shaped _, ?_⟩
        have hmem : w ∈ sortW S0.waiting := by
          have := E.em.mem w (List.mem_of_getElem? hw)
          exact (List.mergeSort_perm _ _).mem_iff.mpr this
        rw [wDs_any, decide_eq_true hmem]
        (try simp only [ne_0_1, ne_0_1b, ne_0_5, ne_0_5b, ne_0_6, ne_0_6b, ne_0_7, ne_0_7b, ne_1_0, ne_1_0b, ne_1_2, ne_1_2b, ne_1_3, ne_1_3b, ne_1_4, ne_1_4b, ne_1_5, ne_1_5b, ne_1_6, ne_1_6b, ne_1_7, ne_1_7b, ne_1_8, ne_1_8b, ne_2_1, ne_2_1b, ne_2_5, ne_2_5b, ne_2_6, ne_2_6b, ne_2_7, ne_2_7b, ne_3_1, ne_3_1b, ne_3_5, ne_3_5b, ne_3_6, ne_3_6b, ne_3_7, ne_3_7b, ne_4_1, ne_4_1b, ne_4_5, ne_4_5b, ne_4_6, ne_4_6b, ne_4_7, ne_4_7b, ne_5_0, ne_5_0b, ne_5_1, ne_5_1b, ne_5_2, ne_5_2b, ne_5_3, ne_5_3b, ne_5_4, ne_5_4b, ne_5_6, ne_5_6b, ne_5_7, ne_5_7b, ne_5_8, ne_5_8b, ne_6_0, ne_6_0b, ne_6_1, ne_6_1b, ne_6_2, ne_6_2b, ne_6_3, ne_6_3b, ne_6_4, ne_6_4b, ne_6_5, ne_6_5b, ne_6_7, ne_6_7b, ne_6_8, ne_6_8b, ne_7_0, ne_7_0b, ne_7_1, ne_7_1b, ne_7_2, ne_7_2b, ne_7_3, ne_7_3b, ne_7_4, ne_7_4b, ne_7_5, ne_7_5b, ne_7_6, ne_7_6b, ne_7_8, ne_7_8b, ne_8_1, ne_8_1b, ne_8_5, ne_8_5b, ne_8_6, ne_8_6b, ne_8_7, ne_8_7b, cxOf, Cx.nox, Cx.wish, tSeq, tAsg, tC, gName, tIfS, tTest, tOp, tUn, rU, rI0, rI, tVar, tNext, tBreak, tRet, tRetN, tDrop, tLst, tTup, tCons, tNil, tCB, tB, tOr, tAnd, tNot, tIf, tCall, tFor_eq, tLc_eq, iRng1, iRng2, iList, iTup, gTup, gTupH, gUnlH, gCons, gNil, gSub, rSetL, rIxL, rIxT, rIxLH, rIxTH, rSlTS, rCatS, rTupS, rIsiH, rLenS, V.ty.injEq, tyS_non, tyS_bl, tyS_int, tyS_str, tyS_ref, tyO_l, tyO_t, tyO_d, tyO_dt, kit_ll, kit_tt, kit_bb, kit_ii, kit_ib, kit_bi, kit_nt, kit_it, kit_st, kit_bt, kit_lt, kit_dt, kit_ni, kit_si, kit_ti, kit_li, kit_di, kit_nb, kit_ns, kit_is, kit_bs, kit_ss, kit_ts, kit_ls, kit_ds, kit_dd, lenS_ref, lenO_l, lenO_t,  rAppend, tM1, rIxS, tSl, tPart, tNoPart, tBM, tBM0, tDGetS, sDPutS, tTruS, truO_l, truO_t, truS_ref, truS_non, truS_bl, truS_int, tFld, sFld, sFldAug, rAdd, tMeth, tMake, tMakeK, List.take_succ_cons, List.take_zero, List.drop_succ_cons, List.drop_zero, List.take_nil, tIsN, tNotN, tAndV, tOrV, tNotV, putF, List.lookup, List.any_cons, List.any_nil, Sum.inr.injEq, HO.ins.injEq, HO.dK.injEq, eq_self, beq_self_eq_true, beq_iff_eq, decide_true, decide_false, Bool.or_true, Bool.true_or, Bool.or_false, Bool.false_or, tYes, rEq, rNe, _root_.L2.start, wipe, List.map_cons, List.map_nil, List.length_cons, List.length_nil, List.append_nil, Nat.reduceAdd, Nat.reduceSub, List.replicate_succ, List.replicate_zero, List.cons_append, List.nil_append, List.getElem?_cons_zero, List.getElem?_cons_succ, List.set_cons_zero, List.set_cons_succ, Option.some.injEq, V.int.injEq, V.ref.injEq, V.bl.injEq, V.str.injEq, List.cons.injEq, HO.lst.injEq, HO.tup.injEq, and_assoc, and_true, true_and, exists_eq_left, exists_eq_left', exists_and_left, exists_eq, reduceCtorEq, false_and, and_false, or_false, false_or, exists_false, decide_eq_true_eq, CPow, CDivW, Int.reducePow, Int.reduceLT, Int.reduceLE, Int.reduceNeg, Int.reduceToNat, Int.reduceAbs, Nat.reducePow, Nat.reduceLT, Nat.reduceLeDiff, sizeLine_eq, Int.reduceMul, Int.reduceAdd, Int.reduceSub, Bool.not_eq_true', decide_eq_false_iff_not, scal, Bool.not_true, Bool.not_false, Bool.true_eq_false, Bool.false_eq_true, ite_false, ite_true, if_true, if_false, ite_self, forall_const, atI0, atI1, atI2, atI3, ixN20, ixN21, upd_same, upd_upd, Int.zero_add, CMul, Int.reduceSub, Nat.le_refl, Nat.zero_le, or_true, true_or, exists_const, Int.sub_zero])
        exact ⟨h6, s6⟩
      · rintro H6 ⟨h6, s6⟩ w7 hw7
        (try simp only [ne_0_1, ne_0_1b, ne_0_5, ne_0_5b, ne_0_6, ne_0_6b, ne_0_7, ne_0_7b, ne_1_0, ne_1_0b, ne_1_2, ne_1_2b, ne_1_3, ne_1_3b, ne_1_4, ne_1_4b, ne_1_5, ne_1_5b, ne_1_6, ne_1_6b, ne_1_7, ne_1_7b, ne_1_8, ne_1_8b, ne_2_1, ne_2_1b, ne_2_5, ne_2_5b, ne_2_6, ne_2_6b, ne_2_7, ne_2_7b, ne_3_1, ne_3_1b, ne_3_5, ne_3_5b, ne_3_6, ne_3_6b, ne_3_7, ne_3_7b, ne_4_1, ne_4_1b, ne_4_5, ne_4_5b, ne_4_6, ne_4_6b, ne_4_7, ne_4_7b, ne_5_0, ne_5_0b, ne_5_1, ne_5_1b, ne_5_2, ne_5_2b, ne_5_3, ne_5_3b, ne_5_4, ne_5_4b, ne_5_6, ne_5_6b, ne_5_7, ne_5_7b, ne_5_8, ne_5_8b, ne_6_0, ne_6_0b, ne_6_1, ne_6_1b, ne_6_2, ne_6_2b, ne_6_3, ne_6_3b, ne_6_4, ne_6_4b, ne_6_5, ne_6_5b, ne_6_7, ne_6_7b, ne_6_8, ne_6_8b, ne_7_0, ne_7_0b, ne_7_1, ne_7_1b, ne_7_2, ne_7_2b, ne_7_3, ne_7_3b, ne_7_4, ne_7_4b, ne_7_5, ne_7_5b, ne_7_6, ne_7_6b, ne_7_8, ne_7_8b, ne_8_1, ne_8_1b, ne_8_5, ne_8_5b, ne_8_6, ne_8_6b, ne_8_7, ne_8_7b, cxOf, Cx.nox, Cx.wish, tSeq, tAsg, tC, gName, tIfS, tTest, tOp, tUn, rU, rI0, rI, tVar, tNext, tBreak, tRet, tRetN, tDrop, tLst, tTup, tCons, tNil, tCB, tB, tOr, tAnd, tNot, tIf, tCall, tFor_eq, tLc_eq, iRng1, iRng2, iList, iTup, gTup, gTupH, gUnlH, gCons, gNil, gSub, rSetL, rIxL, rIxT, rIxLH, rIxTH, rSlTS, rCatS, rTupS, rIsiH, rLenS, V.ty.injEq, tyS_non, tyS_bl, tyS_int, tyS_str, tyS_ref, tyO_l, tyO_t, tyO_d, tyO_dt, kit_ll, kit_tt, kit_bb, kit_ii, kit_ib, kit_bi, kit_nt, kit_it, kit_st, kit_bt, kit_lt, kit_dt, kit_ni, kit_si, kit_ti, kit_li, kit_di, kit_nb, kit_ns, kit_is, kit_bs, kit_ss, kit_ts, kit_ls, kit_ds, kit_dd, lenS_ref, lenO_l, lenO_t,  rAppend, tM1, rIxS, tSl, tPart, tNoPart, tBM, tBM0, tDGetS, sDPutS, tTruS, truO_l, truO_t, truS_ref, truS_non, truS_bl, truS_int, tFld, sFld, sFldAug, rAdd, tMeth, tMake, tMakeK, List.take_succ_cons, List.take_zero, List.drop_succ_cons, List.drop_zero, List.take_nil, tIsN, tNotN, tAndV, tOrV, tNotV, putF, List.lookup, List.any_cons, List.any_nil, Sum.inr.injEq, HO.ins.injEq, HO.dK.injEq, eq_self, beq_self_eq_true, beq_iff_eq, decide_true, decide_false, Bool.or_true, Bool.true_or, Bool.or_false, Bool.false_or, tYes, rEq, rNe, _root_.L2.start, wipe, List.map_cons, List.map_nil, List.length_cons, List.length_nil, List.append_nil, Nat.reduceAdd, Nat.reduceSub, List.replicate_succ, List.replicate_zero, List.cons_append, List.nil_append, List.getElem?_cons_zero, List.getElem?_cons_succ, List.set_cons_zero, List.set_cons_succ, Option.some.injEq, V.int.injEq, V.ref.injEq, V.bl.injEq, V.str.injEq, List.cons.injEq, HO.lst.injEq, HO.tup.injEq, and_assoc, and_true, true_and, exists_eq_left, exists_eq_left', exists_and_left, exists_eq, reduceCtorEq, false_and, and_false, or_false, false_or, exists_false, decide_eq_true_eq, CPow, CDivW, Int.reducePow, Int.reduceLT, Int.reduceLE, Int.reduceNeg, Int.reduceToNat, Int.reduceAbs, Nat.reducePow, Nat.reduceLT, Nat.reduceLeDiff, sizeLine_eq, Int.reduceMul, Int.reduceAdd, Int.reduceSub, Bool.not_eq_true', decide_eq_false_iff_not, scal, Bool.not_true, Bool.not_false, Bool.true_eq_false, Bool.false_eq_true, ite_false, ite_true, if_true, if_false, ite_self, forall_const, atI0, atI1, atI2, atI3, ixN20, ixN21, upd_same, upd_upd, Int.zero_add, CMul, Int.reduceSub, Nat.le_refl, Nat.zero_le, or_true, true_or, exists_const, Int.sub_zero, rEqD])
        refine ⟨_, .lst (SqL.of (get_new hw7 h6)) (ImAll.dp _ _ im_nil), _, .lst (SqL.of upd_same) (ImAll.dp _ _ im_nil), wDs_shaped [], wDs_shaped [], ?_⟩
        rw [show PyData.eqv (.list []) (.list []) = true from rfl]
        refine kk _ fun b o e n1 n2 n3 n4 => get_new hw7 (s6 _ _ (s5 _ _ (s4 _ _ (E.fr b o e n1 n2 n3 n4))))
    · rintro k σ H2 hk ⟨l1, m1, S, held, xs, b5, b6, rfl, E⟩ nx hnx
      obtain ⟨dx2, hv2, ws2, hp2, ih2, hl2, iw2⟩ := id E.bo.lk
      (try simp only [ne_0_1, ne_0_1b, ne_0_5, ne_0_5b, ne_0_6, ne_0_6b, ne_0_7, ne_0_7b, ne_1_0, ne_1_0b, ne_1_2, ne_1_2b, ne_1_3, ne_1_3b, ne_1_4, ne_1_4b, ne_1_5, ne_1_5b, ne_1_6, ne_1_6b, ne_1_7, ne_1_7b, ne_1_8, ne_1_8b, ne_2_1, ne_2_1b, ne_2_5, ne_2_5b, ne_2_6, ne_2_6b, ne_2_7, ne_2_7b, ne_3_1, ne_3_1b, ne_3_5, ne_3_5b, ne_3_6, ne_3_6b, ne_3_7, ne_3_7b, ne_4_1, ne_4_1b, ne_4_5, ne_4_5b, ne_4_6, ne_4_6b, ne_4_7, ne_4_7b, ne_5_0, ne_5_0b, ne_5_1, ne_5_1b, ne_5_2, ne_5_2b, ne_5_3, ne_5_3b, ne_5_4, ne_5_4b, ne_5_6, ne_5_6b, ne_5_7, ne_5_7b, ne_5_8, ne_5_8b, ne_6_0, ne_6_0b, ne_6_1, ne_6_1b, ne_6_2, ne_6_2b, ne_6_3, ne_6_3b, ne_6_4, ne_6_4b, ne_6_5, ne_6_5b, ne_6_7, ne_6_7b, ne_6_8, ne_6_8b, ne_7_0, ne_7_0b, ne_7_1, ne_7_1b, ne_7_2, ne_7_2b, ne_7_3, ne_7_3b, ne_7_4, ne_7_4b, ne_7_5, ne_7_5b, ne_7_6, ne_7_6b, ne_7_8, ne_7_8b, ne_8_1, ne_8_1b, ne_8_5, ne_8_5b, ne_8_6, ne_8_6b, ne_8_7, ne_8_7b, cxOf, Cx.nox, Cx.wish, tSeq, tAsg, tC, gName, tIfS, tTest, tOp, tUn, rU, rI0, rI, tVar, tNext, tBreak, tRet, tRetN, tDrop, tLst, tTup, tCons, tNil, tCB, tB, tOr, tAnd, tNot, tIf, tCall, tFor_eq, tLc_eq, iRng1, iRng2, iList, iTup, gTup, gTupH, gUnlH, gCons, gNil, gSub, rSetL, rIxL, rIxT, rIxLH, rIxTH, rSlTS, rCatS, rTupS, rIsiH, rLenS, V.ty.injEq, tyS_non, tyS_bl, tyS_int, tyS_str, tyS_ref, tyO_l, tyO_t, tyO_d, tyO_dt, kit_ll, kit_tt, kit_bb, kit_ii, kit_ib, kit_bi, kit_nt, kit_it, kit_st, kit_bt, kit_lt, kit_dt, kit_ni, kit_si, kit_ti, kit_li, kit_di, kit_nb, kit_ns, kit_is, kit_bs, kit_ss, kit_ts, kit_ls, kit_ds, kit_dd, lenS_ref, lenO_l, lenO_t,  rAppend, tM1, rIxS, tSl, tPart, tNoPart, tBM, tBM0, tDGetS, sDPutS, tTruS, truO_l, truO_t, truS_ref, truS_non, truS_bl, truS_int, tFld, sFld, sFldAug, rAdd, tMeth, tMake, tMakeK, List.take_succ_cons, List.take_zero, List.drop_succ_cons, List.drop_zero, List.take_nil, tIsN, tNotN, tAndV, tOrV, tNotV, putF, List.lookup, List.any_cons, List.any_nil, Sum.inr.injEq, HO.ins.injEq, HO.dK.injEq, eq_self, beq_self_eq_true, beq_iff_eq, decide_true, decide_false, Bool.or_true, Bool.true_or, Bool.or_false, Bool.false_or, tYes, rEq, rNe, _root_.L2.start, wipe, List.map_cons, List.map_nil, List.length_cons, List.length_nil, List.append_nil, Nat.reduceAdd, Nat.reduceSub, List.replicate_succ, List.replicate_zero, List.cons_append, List.nil_append, List.getElem?_cons_zero, List.getElem?_cons_succ, List.set_cons_zero, List.set_cons_succ, Option.some.injEq, V.int.injEq, V.ref.injEq, V.bl.injEq, V.str.injEq, List.cons.injEq, HO.lst.injEq, HO.tup.injEq, and_assoc, and_true, true_and, exists_eq_left, exists_eq_left', exists_and_left, exists_eq, reduceCtorEq, false_and, and_false, or_false, false_or, exists_false, decide_eq_true_eq, CPow, CDivW, Int.reducePow, Int.reduceLT, Int.reduceLE, Int.reduceNeg, Int.reduceToNat, Int.reduceAbs, Nat.reducePow, Nat.reduceLT, Nat.reduceLeDiff, sizeLine_eq, Int.reduceMul, Int.reduceAdd, Int.reduceSub, Bool.not_eq_true', decide_eq_false_iff_not, scal, Bool.not_true, Bool.not_false, Bool.true_eq_false, Bool.false_eq_true, ite_false, ite_true, if_true, if_false, ite_self, forall_const, atI0, atI1, atI2, atI3, ixN20, ixN21, upd_same, upd_upd, Int.zero_add, CMul, Int.reduceSub, Nat.le_refl, Nat.zero_le, or_true, true_or, exists_const, Int.sub_zero, hp2, lockF])
      cases eS : S.holder with
      | none =>
        rw [eS] at ih2
        have := hD_none ih2
        subst this
        (try simp only [ne_0_1, ne_0_1b, ne_0_5, ne_0_5b, ne_0_6, ne_0_6b, ne_0_7, ne_0_7b, ne_1_0, ne_1_0b, ne_1_2, ne_1_2b, ne_1_3, ne_1_3b, ne_1_4, ne_1_4b, ne_1_5, ne_1_5b, ne_1_6, ne_1_6b, ne_1_7, ne_1_7b, ne_1_8, ne_1_8b, ne_2_1, ne_2_1b, ne_2_5, ne_2_5b, ne_2_6, ne_2_6b, ne_2_7, ne_2_7b, ne_3_1, ne_3_1b, ne_3_5, ne_3_5b, ne_3_6, ne_3_6b, ne_3_7, ne_3_7b, ne_4_1, ne_4_1b, ne_4_5, ne_4_5b, ne_4_6, ne_4_6b, ne_4_7, ne_4_7b, ne_5_0, ne_5_0b, ne_5_1, ne_5_1b, ne_5_2, ne_5_2b, ne_5_3, ne_5_3b, ne_5_4, ne_5_4b, ne_5_6, ne_5_6b, ne_5_7, ne_5_7b, ne_5_8, ne_5_8b, ne_6_0, ne_6_0b, ne_6_1, ne_6_1b, ne_6_2, ne_6_2b, ne_6_3, ne_6_3b, ne_6_4, ne_6_4b, ne_6_5, ne_6_5b, ne_6_7, ne_6_7b, ne_6_8, ne_6_8b, ne_7_0, ne_7_0b, ne_7_1, ne_7_1b, ne_7_2, ne_7_2b, ne_7_3, ne_7_3b, ne_7_4, ne_7_4b, ne_7_5, ne_7_5b, ne_7_6, ne_7_6b, ne_7_8, ne_7_8b, ne_8_1, ne_8_1b, ne_8_5, ne_8_5b, ne_8_6, ne_8_6b, ne_8_7, ne_8_7b, cxOf, Cx.nox, Cx.wish, tSeq, tAsg, tC, gName, tIfS, tTest, tOp, tUn, rU, rI0, rI, tVar, tNext, tBreak, tRet, tRetN, tDrop, tLst, tTup, tCons, tNil, tCB, tB, tOr, tAnd, tNot, tIf, tCall, tFor_eq, tLc_eq, iRng1, iRng2, iList, iTup, gTup, gTupH, gUnlH, gCons, gNil, gSub, rSetL, rIxL, rIxT, rIxLH, rIxTH, rSlTS, rCatS, rTupS, rIsiH, rLenS, V.ty.injEq, tyS_non, tyS_bl, tyS_int, tyS_str, tyS_ref, tyO_l, tyO_t, tyO_d, tyO_dt, kit_ll, kit_tt, kit_bb, kit_ii, kit_ib, kit_bi, kit_nt, kit_it, kit_st, kit_bt, kit_lt, kit_dt, kit_ni, kit_si, kit_ti, kit_li, kit_di, kit_nb, kit_ns, kit_is, kit_bs, kit_ss, kit_ts, kit_ls, kit_ds, kit_dd, lenS_ref, lenO_l, lenO_t,  rAppend, tM1, rIxS, tSl, tPart, tNoPart, tBM, tBM0, tDGetS, sDPutS, tTruS, truO_l, truO_t, truS_ref, truS_non, truS_bl, truS_int, tFld, sFld, sFldAug, rAdd, tMeth, tMake, tMakeK, List.take_succ_cons, List.take_zero, List.drop_succ_cons, List.drop_zero, List.take_nil, tIsN, tNotN, tAndV, tOrV, tNotV, putF, List.lookup, List.any_cons, List.any_nil, Sum.inr.injEq, HO.ins.injEq, HO.dK.injEq, eq_self, beq_self_eq_true, beq_iff_eq, decide_true, decide_false, Bool.or_true, Bool.true_or, Bool.or_false, Bool.false_or, tYes, rEq, rNe, _root_.L2.start, wipe, List.map_cons, List.map_nil, List.length_cons, List.length_nil, List.append_nil, Nat.reduceAdd, Nat.reduceSub, List.replicate_succ, List.replicate_zero, List.cons_append, List.nil_append, List.getElem?_cons_zero, List.getElem?_cons_succ, List.set_cons_zero, List.set_cons_succ, Option.some.injEq, V.int.injEq, V.ref.injEq, V.bl.injEq, V.str.injEq, List.cons.injEq, HO.lst.injEq, HO.tup.injEq, and_assoc, and_true, true_and, exists_eq_left, exists_eq_left', exists_and_left, exists_eq, reduceCtorEq, false_and, and_false, or_false, false_or, exists_false, decide_eq_true_eq, CPow, CDivW, Int.reducePow, Int.reduceLT, Int.reduceLE, Int.reduceNeg, Int.reduceToNat, Int.reduceAbs, Nat.reducePow, Nat.reduceLT, Nat.reduceLeDiff, sizeLine_eq, Int.reduceMul, Int.reduceAdd, Int.reduceSub, Bool.not_eq_true', decide_eq_false_iff_not, scal, Bool.not_true, Bool.not_false, Bool.true_eq_false, Bool.false_eq_true, ite_false, ite_true, if_true, if_false, ite_self, forall_const, atI0, atI1, atI2, atI3, ixN20, ixN21, upd_same, upd_upd, Int.zero_add, CMul, Int.reduceSub, Nat.le_refl, Nat.zero_le, or_true, true_or, exists_const, Int.sub_zero, T.cl_Lock, T.n_Lock_holder])
        obtain ⟨e1, e2, e3⟩ := E.em.over (.inl eS) E.iv
        exact hnx _ _ ⟨_, l1, m1, S, held, xs, _, _, rfl, E, by omega, e1, e2, e3⟩
      | some h =>
        rw [eS] at ih2
        obtain ⟨ah, th, rfl, hah, _⟩ := hD_ref ih2
        (try simp only [ne_0_1, ne_0_1b, ne_0_5, ne_0_5b, ne_0_6, ne_0_6b, ne_0_7, ne_0_7b, ne_1_0, ne_1_0b, ne_1_2, ne_1_2b, ne_1_3, ne_1_3b, ne_1_4, ne_1_4b, ne_1_5, ne_1_5b, ne_1_6, ne_1_6b, ne_1_7, ne_1_7b, ne_1_8, ne_1_8b, ne_2_1, ne_2_1b, ne_2_5, ne_2_5b, ne_2_6, ne_2_6b, ne_2_7, ne_2_7b, ne_3_1, ne_3_1b, ne_3_5, ne_3_5b, ne_3_6, ne_3_6b, ne_3_7, ne_3_7b, ne_4_1, ne_4_1b, ne_4_5, ne_4_5b, ne_4_6, ne_4_6b, ne_4_7, ne_4_7b, ne_5_0, ne_5_0b, ne_5_1, ne_5_1b, ne_5_2, ne_5_2b, ne_5_3, ne_5_3b, ne_5_4, ne_5_4b, ne_5_6, ne_5_6b, ne_5_7, ne_5_7b, ne_5_8, ne_5_8b, ne_6_0, ne_6_0b, ne_6_1, ne_6_1b, ne_6_2, ne_6_2b, ne_6_3, ne_6_3b, ne_6_4, ne_6_4b, ne_6_5, ne_6_5b, ne_6_7, ne_6_7b, ne_6_8, ne_6_8b, ne_7_0, ne_7_0b, ne_7_1, ne_7_1b, ne_7_2, ne_7_2b, ne_7_3, ne_7_3b, ne_7_4, ne_7_4b, ne_7_5, ne_7_5b, ne_7_6, ne_7_6b, ne_7_8, ne_7_8b, ne_8_1, ne_8_1b, ne_8_5, ne_8_5b, ne_8_6, ne_8_6b, ne_8_7, ne_8_7b, cxOf, Cx.nox, Cx.wish, tSeq, tAsg, tC, gName, tIfS, tTest, tOp, tUn, rU, rI0, rI, tVar, tNext, tBreak, tRet, tRetN, tDrop, tLst, tTup, tCons, tNil, tCB, tB, tOr, tAnd, tNot, tIf, tCall, tFor_eq, tLc_eq, iRng1, iRng2, iList, iTup, gTup, gTupH, gUnlH, gCons, gNil, gSub, rSetL, rIxL, rIxT, rIxLH, rIxTH, rSlTS, rCatS, rTupS, rIsiH, rLenS, V.ty.injEq, tyS_non, tyS_bl, tyS_int, tyS_str, tyS_ref, tyO_l, tyO_t, tyO_d, tyO_dt, kit_ll, kit_tt, kit_bb, kit_ii, kit_ib, kit_bi, kit_nt, kit_it, kit_st, kit_bt, kit_lt, kit_dt, kit_ni, kit_si, kit_ti, kit_li, kit_di, kit_nb, kit_ns, kit_is, kit_bs, kit_ss, kit_ts, kit_ls, kit_ds, kit_dd, lenS_ref, lenO_l, lenO_t,  rAppend, tM1, rIxS, tSl, tPart, tNoPart, tBM, tBM0, tDGetS, sDPutS, tTruS, truO_l, truO_t, truS_ref, truS_non, truS_bl, truS_int, tFld, sFld, sFldAug, rAdd, tMeth, tMake, tMakeK, List.take_succ_cons, List.take_zero, List.drop_succ_cons, List.drop_zero, List.take_nil, tIsN, tNotN, tAndV, tOrV, tNotV, putF, List.lookup, List.any_cons, List.any_nil, Sum.inr.injEq, HO.ins.injEq, HO.dK.injEq, eq_self, beq_self_eq_true, beq_iff_eq, decide_true, decide_false, Bool.or_true, Bool.true_or, Bool.or_false, Bool.false_or, tYes, rEq, rNe, _root_.L2.start, wipe, List.map_cons, List.map_nil, List.length_cons, List.length_nil, List.append_nil, Nat.reduceAdd, Nat.reduceSub, List.replicate_succ, List.replicate_zero, List.cons_append, List.nil_append, List.getElem?_cons_zero, List.getElem?_cons_succ, List.set_cons_zero, List.set_cons_succ, Option.some.injEq, V.int.injEq, V.ref.injEq, V.bl.injEq, V.str.injEq, List.cons.injEq, HO.lst.injEq, HO.tup.injEq, and_assoc, and_true, true_and, exists_eq_left, exists_eq_left', exists_and_left, exists_eq, reduceCtorEq, false_and, and_false, or_false, false_or, exists_false, decide_eq_true_eq, CPow, CDivW, Int.reducePow, Int.reduceLT, Int.reduceLE, Int.reduceNeg, Int.reduceToNat, Int.reduceAbs, Nat.reducePow, Nat.reduceLT, Nat.reduceLeDiff, sizeLine_eq, Int.reduceMul, Int.reduceAdd, Int.reduceSub, Bool.not_eq_true', decide_eq_false_iff_not, scal, Bool.not_true, Bool.not_false, Bool.true_eq_false, Bool.false_eq_true, ite_false, ite_true, if_true, if_false, ite_self, forall_const, atI0, atI1, atI2, atI3, ixN20, ixN21, upd_same, upd_upd, Int.zero_add, CMul, Int.reduceSub, Nat.le_refl, Nat.zero_le, or_true, true_or, exists_const, Int.sub_zero, hp2, lockF, T.cl_Lock, T.n_Lock_holder])
        have npD : p ≠ D := ne_il hp2 E.hD
        obtain ⟨hv2', ws2', hd2, ihd2, hm2, iwm2⟩ := id E.bo.md
        have ndD : d ≠ D := ne_dl hd2 E.hD
        refine cutI (fun σ H3 => ∃ (xs' : List V), σ = [some (.ref p), some (.ref d), some (.ref q), some (.int S0.turn), some (.ref D), some (.int k), b6, none] ∧ H3 D = some (.lst xs') ∧ ImAll H3 ((if k > 0 then held ++ [h] else held).map wD) xs' ∧ Tk H2 H3 ∧ ∀ b, b ≠ D → H3 b = H2 b) ?_ ?_
        · have hxl := E.ix.len
          rw [List.length_map] at hxl
          have hhl := E.em.hl
          (try simp only [ne_0_1, ne_0_1b, ne_0_5, ne_0_5b, ne_0_6, ne_0_6b, ne_0_7, ne_0_7b, ne_1_0, ne_1_0b, ne_1_2, ne_1_2b, ne_1_3, ne_1_3b, ne_1_4, ne_1_4b, ne_1_5, ne_1_5b, ne_1_6, ne_1_6b, ne_1_7, ne_1_7b, ne_1_8, ne_1_8b, ne_2_1, ne_2_1b, ne_2_5, ne_2_5b, ne_2_6, ne_2_6b, ne_2_7, ne_2_7b, ne_3_1, ne_3_1b, ne_3_5, ne_3_5b, ne_3_6, ne_3_6b, ne_3_7, ne_3_7b, ne_4_1, ne_4_1b, ne_4_5, ne_4_5b, ne_4_6, ne_4_6b, ne_4_7, ne_4_7b, ne_5_0, ne_5_0b, ne_5_1, ne_5_1b, ne_5_2, ne_5_2b, ne_5_3, ne_5_3b, ne_5_4, ne_5_4b, ne_5_6, ne_5_6b, ne_5_7, ne_5_7b, ne_5_8, ne_5_8b, ne_6_0, ne_6_0b, ne_6_1, ne_6_1b, ne_6_2, ne_6_2b, ne_6_3, ne_6_3b, ne_6_4, ne_6_4b, ne_6_5, ne_6_5b, ne_6_7, ne_6_7b, ne_6_8, ne_6_8b, ne_7_0, ne_7_0b, ne_7_1, ne_7_1b, ne_7_2, ne_7_2b, ne_7_3, ne_7_3b, ne_7_4, ne_7_4b, ne_7_5, ne_7_5b, ne_7_6, ne_7_6b, ne_7_8, ne_7_8b, ne_8_1, ne_8_1b, ne_8_5, ne_8_5b, ne_8_6, ne_8_6b, ne_8_7, ne_8_7b, cxOf, Cx.nox, Cx.wish, tSeq, tAsg, tC, gName, tIfS, tTest, tOp, tUn, rU, rI0, rI, tVar, tNext, tBreak, tRet, tRetN, tDrop, tLst, tTup, tCons, tNil, tCB, tB, tOr, tAnd, tNot, tIf, tCall, tFor_eq, tLc_eq, iRng1, iRng2, iList, iTup, gTup, gTupH, gUnlH, gCons, gNil, gSub, rSetL, rIxL, rIxT, rIxLH, rIxTH, rSlTS, rCatS, rTupS, rIsiH, rLenS, V.ty.injEq, tyS_non, tyS_bl, tyS_int, tyS_str, tyS_ref, tyO_l, tyO_t, tyO_d, tyO_dt, kit_ll, kit_tt, kit_bb, kit_ii, kit_ib, kit_bi, kit_nt, kit_it, kit_st, kit_bt, kit_lt, kit_dt, kit_ni, kit_si, kit_ti, kit_li, kit_di, kit_nb, kit_ns, kit_is, kit_bs, kit_ss, kit_ts, kit_ls, kit_ds, kit_dd, lenS_ref, lenO_l, lenO_t,  rAppend, tM1, rIxS, tSl, tPart, tNoPart, tBM, tBM0, tDGetS, sDPutS, tTruS, truO_l, truO_t, truS_ref, truS_non, truS_bl, truS_int, tFld, sFld, sFldAug, rAdd, tMeth, tMake, tMakeK, List.take_succ_cons, List.take_zero, List.drop_succ_cons, List.drop_zero, List.take_nil, tIsN, tNotN, tAndV, tOrV, tNotV, putF, List.lookup, List.any_cons, List.any_nil, Sum.inr.injEq, HO.ins.injEq, HO.dK.injEq, eq_self, beq_self_eq_true, beq_iff_eq, decide_true, decide_false, Bool.or_true, Bool.true_or, Bool.or_false, Bool.false_or, tYes, rEq, rNe, _root_.L2.start, wipe, List.map_cons, List.map_nil, List.length_cons, List.length_nil, List.append_nil, Nat.reduceAdd, Nat.reduceSub, List.replicate_succ, List.replicate_zero, List.cons_append, List.nil_append, List.getElem?_cons_zero, List.getElem?_cons_succ, List.set_cons_zero, List.set_cons_succ, Option.some.injEq, V.int.injEq, V.ref.injEq, V.bl.injEq, V.str.injEq, List.cons.injEq, HO.lst.injEq, HO.tup.injEq, and_assoc, and_true, true_and, exists_eq_left, exists_eq_left', exists_and_left, exists_eq, reduceCtorEq, false_and, and_false, or_false, false_or, exists_false, decide_eq_true_eq, CPow, CDivW, Int.reducePow, Int.reduceLT, Int.reduceLE, Int.reduceNeg, Int.reduceToNat, Int.reduceAbs, Nat.reducePow, Nat.reduceLT, Nat.reduceLeDiff, sizeLine_eq, Int.reduceMul, Int.reduceAdd, Int.reduceSub, Bool.not_eq_true', decide_eq_false_iff_not, scal, Bool.not_true, Bool.not_false, Bool.true_eq_false, Bool.false_eq_true, ite_false, ite_true, if_true, if_false, ite_self, forall_const, atI0, atI1, atI2, atI3, ixN20, ixN21, upd_same, upd_upd, Int.zero_add, CMul, Int.reduceSub, Nat.le_refl, Nat.zero_le, or_true, true_or, exists_const, Int.sub_zero, hp2, lockF, T.cl_Lock, T.n_Lock_holder, E.hD])
          by_cases hk0 : k > 0
          · rw [if_pos (by omega), if_pos hk0]
            refine ⟨tyL E.hD, by omega, ?_, Tk.put E.hD, fun b nb => upd_ne nb⟩
            rw [List.map_append]
            exact ims_app E.hD E.ix ih2
          · rw [if_neg (by omega), if_neg hk0]
            exact ⟨E.ix, Tk.refl _, fun _ _ => trivial⟩
        rintro σ H3 ⟨xs', rfl, hD3, ix3, tk3, fr3⟩
        have B3 : Both T.C_Lock H3 p l1 d m1 S := ⟨E.bo.lk.keep tk3 fun b o e z => (fr3 b (z.elim (fun z => z ▸ npD) fun z => z ▸ E.nDl.symm)).trans e, E.bo.md.keep tk3 fun b o e z => (fr3 b (z.elim (fun z => z ▸ ndD) fun z => z ▸ E.nDm.symm)).trans e, E.bo.ne⟩
        obtain ⟨dx3, hv3, ws3, hp3, ih3, hl3, iw3⟩ := id B3.lk
        rw [fr3 p npD, hp2] at hp3
        simp only [Option.some.injEq, HO.ins.injEq, true_and, lockF, List.cons.injEq, Prod.mk.injEq, and_true] at hp3
        obtain ⟨rfl, rfl⟩ := hp3
        rw [eS] at ih3
        have hp3 : H3 p = some (.ins T.C_Lock dx2 (lockF S.value S.turn (.ref ah) l1)) := (fr3 p npD).trans hp2
        have ih3' : Im H3 (wD h) (.ref ah) := ih3
        (try simp only [ne_0_1, ne_0_1b, ne_0_5, ne_0_5b, ne_0_6, ne_0_6b, ne_0_7, ne_0_7b, ne_1_0, ne_1_0b, ne_1_2, ne_1_2b, ne_1_3, ne_1_3b, ne_1_4, ne_1_4b, ne_1_5, ne_1_5b, ne_1_6, ne_1_6b, ne_1_7, ne_1_7b, ne_1_8, ne_1_8b, ne_2_1, ne_2_1b, ne_2_5, ne_2_5b, ne_2_6, ne_2_6b, ne_2_7, ne_2_7b, ne_3_1, ne_3_1b, ne_3_5, ne_3_5b, ne_3_6, ne_3_6b, ne_3_7, ne_3_7b, ne_4_1, ne_4_1b, ne_4_5, ne_4_5b, ne_4_6, ne_4_6b, ne_4_7, ne_4_7b, ne_5_0, ne_5_0b, ne_5_1, ne_5_1b, ne_5_2, ne_5_2b, ne_5_3, ne_5_3b, ne_5_4, ne_5_4b, ne_5_6, ne_5_6b, ne_5_7, ne_5_7b, ne_5_8, ne_5_8b, ne_6_0, ne_6_0b, ne_6_1, ne_6_1b, ne_6_2, ne_6_2b, ne_6_3, ne_6_3b, ne_6_4, ne_6_4b, ne_6_5, ne_6_5b, ne_6_7, ne_6_7b, ne_6_8, ne_6_8b, ne_7_0, ne_7_0b, ne_7_1, ne_7_1b, ne_7_2, ne_7_2b, ne_7_3, ne_7_3b, ne_7_4, ne_7_4b, ne_7_5, ne_7_5b, ne_7_6, ne_7_6b, ne_7_8, ne_7_8b, ne_8_1, ne_8_1b, ne_8_5, ne_8_5b, ne_8_6, ne_8_6b, ne_8_7, ne_8_7b, cxOf, Cx.nox, Cx.wish, tSeq, tAsg, tC, gName, tIfS, tTest, tOp, tUn, rU, rI0, rI, tVar, tNext, tBreak, tRet, tRetN, tDrop, tLst, tTup, tCons, tNil, tCB, tB, tOr, tAnd, tNot, tIf, tCall, tFor_eq, tLc_eq, iRng1, iRng2, iList, iTup, gTup, gTupH, gUnlH, gCons, gNil, gSub, rSetL, rIxL, rIxT, rIxLH, rIxTH, rSlTS, rCatS, rTupS, rIsiH, rLenS, V.ty.injEq, tyS_non, tyS_bl, tyS_int, tyS_str, tyS_ref, tyO_l, tyO_t, tyO_d, tyO_dt, kit_ll, kit_tt, kit_bb, kit_ii, kit_ib, kit_bi, kit_nt, kit_it, kit_st, kit_bt, kit_lt, kit_dt, kit_ni, kit_si, kit_ti, kit_li, kit_di, kit_nb, kit_ns, kit_is, kit_bs, kit_ss, kit_ts, kit_ls, kit_ds, kit_dd, lenS_ref, lenO_l, lenO_t,  rAppend, tM1, rIxS, tSl, tPart, tNoPart, tBM, tBM0, tDGetS, sDPutS, tTruS, truO_l, truO_t, truS_ref, truS_non, truS_bl, truS_int, tFld, sFld, sFldAug, rAdd, tMeth, tMake, tMakeK, List.take_succ_cons, List.take_zero, List.drop_succ_cons, List.drop_zero, List.take_nil, tIsN, tNotN, tAndV, tOrV, tNotV, putF, List.lookup, List.any_cons, List.any_nil, Sum.inr.injEq, HO.ins.injEq, HO.dK.injEq, eq_self, beq_self_eq_true, beq_iff_eq, decide_true, decide_false, Bool.or_true, Bool.true_or, Bool.or_false, Bool.false_or, tYes, rEq, rNe, _root_.L2.start, wipe, List.map_cons, List.map_nil, List.length_cons, List.length_nil, List.append_nil, Nat.reduceAdd, Nat.reduceSub, List.replicate_succ, List.replicate_zero, List.cons_append, List.nil_append, List.getElem?_cons_zero, List.getElem?_cons_succ, List.set_cons_zero, List.set_cons_succ, Option.some.injEq, V.int.injEq, V.ref.injEq, V.bl.injEq, V.str.injEq, List.cons.injEq, HO.lst.injEq, HO.tup.injEq, and_assoc, and_true, true_and, exists_eq_left, exists_eq_left', exists_and_left, exists_eq, reduceCtorEq, false_and, and_false, or_false, false_or, exists_false, decide_eq_true_eq, CPow, CDivW, Int.reducePow, Int.reduceLT, Int.reduceLE, Int.reduceNeg, Int.reduceToNat, Int.reduceAbs, Nat.reducePow, Nat.reduceLT, Nat.reduceLeDiff, sizeLine_eq, Int.reduceMul, Int.reduceAdd, Int.reduceSub, Bool.not_eq_true', decide_eq_false_iff_not, scal, Bool.not_true, Bool.not_false, Bool.true_eq_false, Bool.false_eq_true, ite_false, ite_true, if_true, if_false, ite_self, forall_const, atI0, atI1, atI2, atI3, ixN20, ixN21, upd_same, upd_upd, Int.zero_add, CMul, Int.reduceSub, Nat.le_refl, Nat.zero_le, or_true, true_or, exists_const, Int.sub_zero, hp3, lockF, T.cl_Lock, T.n_Lock_holder, sp_Lock_finish])
        have hwl := E.em.len
        refine ⟨l1, S, B3.lk, h, ih3', by omega, fun l4 q1 z1 H4 L4 hl4 hq1 nq1 hz1 iz1 b4 => ?_⟩
        obtain ⟨M4, tk4⟩ := B3.mid b4
        obtain ⟨hv4, ws4, hd4, ihd4, hm4, iwm4⟩ := id M4
        rw [eS] at ihd4
        have ihd4' : Im H4 (wD h) hv4 := ihd4
        (try simp only [ne_0_1, ne_0_1b, ne_0_5, ne_0_5b, ne_0_6, ne_0_6b, ne_0_7, ne_0_7b, ne_1_0, ne_1_0b, ne_1_2, ne_1_2b, ne_1_3, ne_1_3b, ne_1_4, ne_1_4b, ne_1_5, ne_1_5b, ne_1_6, ne_1_6b, ne_1_7, ne_1_7b, ne_1_8, ne_1_8b, ne_2_1, ne_2_1b, ne_2_5, ne_2_5b, ne_2_6, ne_2_6b, ne_2_7, ne_2_7b, ne_3_1, ne_3_1b, ne_3_5, ne_3_5b, ne_3_6, ne_3_6b, ne_3_7, ne_3_7b, ne_4_1, ne_4_1b, ne_4_5, ne_4_5b, ne_4_6, ne_4_6b, ne_4_7, ne_4_7b, ne_5_0, ne_5_0b, ne_5_1, ne_5_1b, ne_5_2, ne_5_2b, ne_5_3, ne_5_3b, ne_5_4, ne_5_4b, ne_5_6, ne_5_6b, ne_5_7, ne_5_7b, ne_5_8, ne_5_8b, ne_6_0, ne_6_0b, ne_6_1, ne_6_1b, ne_6_2, ne_6_2b, ne_6_3, ne_6_3b, ne_6_4, ne_6_4b, ne_6_5, ne_6_5b, ne_6_7, ne_6_7b, ne_6_8, ne_6_8b, ne_7_0, ne_7_0b, ne_7_1, ne_7_1b, ne_7_2, ne_7_2b, ne_7_3, ne_7_3b, ne_7_4, ne_7_4b, ne_7_5, ne_7_5b, ne_7_6, ne_7_6b, ne_7_8, ne_7_8b, ne_8_1, ne_8_1b, ne_8_5, ne_8_5b, ne_8_6, ne_8_6b, ne_8_7, ne_8_7b, cxOf, Cx.nox, Cx.wish, tSeq, tAsg, tC, gName, tIfS, tTest, tOp, tUn, rU, rI0, rI, tVar, tNext, tBreak, tRet, tRetN, tDrop, tLst, tTup, tCons, tNil, tCB, tB, tOr, tAnd, tNot, tIf, tCall, tFor_eq, tLc_eq, iRng1, iRng2, iList, iTup, gTup, gTupH, gUnlH, gCons, gNil, gSub, rSetL, rIxL, rIxT, rIxLH, rIxTH, rSlTS, rCatS, rTupS, rIsiH, rLenS, V.ty.injEq, tyS_non, tyS_bl, tyS_int, tyS_str, tyS_ref, tyO_l, tyO_t, tyO_d, tyO_dt, kit_ll, kit_tt, kit_bb, kit_ii, kit_ib, kit_bi, kit_nt, kit_it, kit_st, kit_bt, kit_lt, kit_dt, kit_ni, kit_si, kit_ti, kit_li, kit_di, kit_nb, kit_ns, kit_is, kit_bs, kit_ss, kit_ts, kit_ls, kit_ds, kit_dd, lenS_ref, lenO_l, lenO_t,  rAppend, tM1, rIxS, tSl, tPart, tNoPart, tBM, tBM0, tDGetS, sDPutS, tTruS, truO_l, truO_t, truS_ref, truS_non, truS_bl, truS_int, tFld, sFld, sFldAug, rAdd, tMeth, tMake, tMakeK, List.take_succ_cons, List.take_zero, List.drop_succ_cons, List.drop_zero, List.take_nil, tIsN, tNotN, tAndV, tOrV, tNotV, putF, List.lookup, List.any_cons, List.any_nil, Sum.inr.injEq, HO.ins.injEq, HO.dK.injEq, eq_self, beq_self_eq_true, beq_iff_eq, decide_true, decide_false, Bool.or_true, Bool.true_or, Bool.or_false, Bool.false_or, tYes, rEq, rNe, _root_.L2.start, wipe, List.map_cons, List.map_nil, List.length_cons, List.length_nil, List.append_nil, Nat.reduceAdd, Nat.reduceSub, List.replicate_succ, List.replicate_zero, List.cons_append, List.nil_append, List.getElem?_cons_zero, List.getElem?_cons_succ, List.set_cons_zero, List.set_cons_succ, Option.some.injEq, V.int.injEq, V.ref.injEq, V.bl.injEq, V.str.injEq, List.cons.injEq, HO.lst.injEq, HO.tup.injEq, and_assoc, and_true, true_and, exists_eq_left, exists_eq_left', exists_and_left, exists_eq, reduceCtorEq, false_and, and_false, or_false, false_or, exists_false, decide_eq_true_eq, CPow, CDivW, Int.reducePow, Int.reduceLT, Int.reduceLE, Int.reduceNeg, Int.reduceToNat, Int.reduceAbs, Nat.reducePow, Nat.reduceLT, Nat.reduceLeDiff, sizeLine_eq, Int.reduceMul, Int.reduceAdd, Int.reduceSub, Bool.not_eq_true', decide_eq_false_iff_not, scal, Bool.not_true, Bool.not_false, Bool.true_eq_false, Bool.false_eq_true, ite_false, ite_true, if_true, if_false, ite_self, forall_const, atI0, atI1, atI2, atI3, ixN20, ixN21, upd_same, upd_upd, Int.zero_add, CMul, Int.reduceSub, Nat.le_refl, Nat.zero_le, or_true, true_or, exists_const, Int.sub_zero, hd4, modF_holder, sp_law_finish])
        refine ⟨m1, S, M4, h, ihd4', by omega, E.em.nd, fun m5 q2 z2 H5 M5 hm5 hq2 nq2 hz2 iz2 b5 => ?_⟩
        obtain ⟨B5, tk5⟩ := B3.two L4 hl4 b4 M5 hm5 b5
        have kp := two_keep b4 b5
        have z1n : ∀ b o, H3 b = some o → b ≠ q1 := fun b o e => ne_of_none e hq1
        have q1d : q1 ≠ d := fun z => by subst z; obtain ⟨_, _, e, _⟩ := B3.md; rw [hq1] at e; cases e
        have q1m : q1 ≠ m1 := fun z => by subst z; obtain ⟨_, _, _, _, e, _⟩ := B3.md; rw [hq1] at e; cases e
        have hz15 : H5 q1 = some (.lst z1) := b5.keep _ _ hz1 q1d q1m
        have iz15 : ImAll H5 (List.map wD (finS S h k).2) z1 := ImAll.mono tk5 _ _ iz1
        (try simp only [ne_0_1, ne_0_1b, ne_0_5, ne_0_5b, ne_0_6, ne_0_6b, ne_0_7, ne_0_7b, ne_1_0, ne_1_0b, ne_1_2, ne_1_2b, ne_1_3, ne_1_3b, ne_1_4, ne_1_4b, ne_1_5, ne_1_5b, ne_1_6, ne_1_6b, ne_1_7, ne_1_7b, ne_1_8, ne_1_8b, ne_2_1, ne_2_1b, ne_2_5, ne_2_5b, ne_2_6, ne_2_6b, ne_2_7, ne_2_7b, ne_3_1, ne_3_1b, ne_3_5, ne_3_5b, ne_3_6, ne_3_6b, ne_3_7, ne_3_7b, ne_4_1, ne_4_1b, ne_4_5, ne_4_5b, ne_4_6, ne_4_6b, ne_4_7, ne_4_7b, ne_5_0, ne_5_0b, ne_5_1, ne_5_1b, ne_5_2, ne_5_2b, ne_5_3, ne_5_3b, ne_5_4, ne_5_4b, ne_5_6, ne_5_6b, ne_5_7, ne_5_7b, ne_5_8, ne_5_8b, ne_6_0, ne_6_0b, ne_6_1, ne_6_1b, ne_6_2, ne_6_2b, ne_6_3, ne_6_3b, ne_6_4, ne_6_4b, ne_6_5, ne_6_5b, ne_6_7, ne_6_7b, ne_6_8, ne_6_8b, ne_7_0, ne_7_0b, ne_7_1, ne_7_1b, ne_7_2, ne_7_2b, ne_7_3, ne_7_3b, ne_7_4, ne_7_4b, ne_7_5, ne_7_5b, ne_7_6, ne_7_6b, ne_7_8, ne_7_8b, ne_8_1, ne_8_1b, ne_8_5, ne_8_5b, ne_8_6, ne_8_6b, ne_8_7, ne_8_7b, cxOf, Cx.nox, Cx.wish, tSeq, tAsg, tC, gName, tIfS, tTest, tOp, tUn, rU, rI0, rI, tVar, tNext, tBreak, tRet, tRetN, tDrop, tLst, tTup, tCons, tNil, tCB, tB, tOr, tAnd, tNot, tIf, tCall, tFor_eq, tLc_eq, iRng1, iRng2, iList, iTup, gTup, gTupH, gUnlH, gCons, gNil, gSub, rSetL, rIxL, rIxT, rIxLH, rIxTH, rSlTS, rCatS, rTupS, rIsiH, rLenS, V.ty.injEq, tyS_non, tyS_bl, tyS_int, tyS_str, tyS_ref, tyO_l, tyO_t, tyO_d, tyO_dt, kit_ll, kit_tt, kit_bb, kit_ii, kit_ib, kit_bi, kit_nt, kit_it, kit_st, kit_bt, kit_lt, kit_dt, kit_ni, kit_si, kit_ti, kit_li, kit_di, kit_nb, kit_ns, kit_is, kit_bs, kit_ss, kit_ts, kit_ls, kit_ds, kit_dd, lenS_ref, lenO_l, lenO_t,  rAppend, tM1, rIxS, tSl, tPart, tNoPart, tBM, tBM0, tDGetS, sDPutS, tTruS, truO_l, truO_t, truS_ref, truS_non, truS_bl, truS_int, tFld, sFld, sFldAug, rAdd, tMeth, tMake, tMakeK, List.take_succ_cons, List.take_zero, List.drop_succ_cons, List.drop_zero, List.take_nil, tIsN, tNotN, tAndV, tOrV, tNotV, putF, List.lookup, List.any_cons, List.any_nil, Sum.inr.injEq, HO.ins.injEq, HO.dK.injEq, eq_self, beq_self_eq_true, beq_iff_eq, decide_true, decide_false, Bool.or_true, Bool.true_or, Bool.or_false, Bool.false_or, tYes, rEq, rNe, _root_.L2.start, wipe, List.map_cons, List.map_nil, List.length_cons, List.length_nil, List.append_nil, Nat.reduceAdd, Nat.reduceSub, List.replicate_succ, List.replicate_zero, List.cons_append, List.nil_append, List.getElem?_cons_zero, List.getElem?_cons_succ, List.set_cons_zero, List.set_cons_succ, Option.some.injEq, V.int.injEq, V.ref.injEq, V.bl.injEq, V.str.injEq, List.cons.injEq, HO.lst.injEq, HO.tup.injEq, and_assoc, and_true, true_and, exists_eq_left, exists_eq_left', exists_and_left, exists_eq, reduceCtorEq, false_and, and_false, or_false, false_or, exists_false, decide_eq_true_eq, CPow, CDivW, Int.reducePow, Int.reduceLT, Int.reduceLE, Int.reduceNeg, Int.reduceToNat, Int.reduceAbs, Nat.reducePow, Nat.reduceLT, Nat.reduceLeDiff, sizeLine_eq, Int.reduceMul, Int.reduceAdd, Int.reduceSub, Bool.not_eq_true', decide_eq_false_iff_not, scal, Bool.not_true, Bool.not_false, Bool.true_eq_false, Bool.false_eq_true, ite_false, ite_true, if_true, if_false, ite_self, forall_const, atI0, atI1, atI2, atI3, ixN20, ixN21, upd_same, upd_upd, Int.zero_add, CMul, Int.reduceSub, Nat.le_refl, Nat.zero_le, or_true, true_or, exists_const, Int.sub_zero, rNeD, sp_law_lock_is])
        refine ⟨_, .lst (SqL.of hz15) (ImAll.dp _ _ iz15), _, .lst (SqL.of hz2) (ImAll.dp _ _ iz2), wDs_shaped _, wDs_shaped _, ?_⟩
        rw [SeqAt.eqv_refl _ (SeqAt.canLay_of_shaped (wDs_shaped _))]
        try (try simp only [ne_0_1, ne_0_1b, ne_0_5, ne_0_5b, ne_0_6, ne_0_6b, ne_0_7, ne_0_7b, ne_1_0, ne_1_0b, ne_1_2, ne_1_2b, ne_1_3, ne_1_3b, ne_1_4, ne_1_4b, ne_1_5, ne_1_5b, ne_1_6, ne_1_6b, ne_1_7, ne_1_7b, ne_1_8, ne_1_8b, ne_2_1, ne_2_1b, ne_2_5, ne_2_5b, ne_2_6, ne_2_6b, ne_2_7, ne_2_7b, ne_3_1, ne_3_1b, ne_3_5, ne_3_5b, ne_3_6, ne_3_6b, ne_3_7, ne_3_7b, ne_4_1, ne_4_1b, ne_4_5, ne_4_5b, ne_4_6, ne_4_6b, ne_4_7, ne_4_7b, ne_5_0, ne_5_0b, ne_5_1, ne_5_1b, ne_5_2, ne_5_2b, ne_5_3, ne_5_3b, ne_5_4, ne_5_4b, ne_5_6, ne_5_6b, ne_5_7, ne_5_7b, ne_5_8, ne_5_8b, ne_6_0, ne_6_0b, ne_6_1, ne_6_1b, ne_6_2, ne_6_2b, ne_6_3, ne_6_3b, ne_6_4, ne_6_4b, ne_6_5, ne_6_5b, ne_6_7, ne_6_7b, ne_6_8, ne_6_8b, ne_7_0, ne_7_0b, ne_7_1, ne_7_1b, ne_7_2, ne_7_2b, ne_7_3, ne_7_3b, ne_7_4, ne_7_4b, ne_7_5, ne_7_5b, ne_7_6, ne_7_6b, ne_7_8, ne_7_8b, ne_8_1, ne_8_1b, ne_8_5, ne_8_5b, ne_8_6, ne_8_6b, ne_8_7, ne_8_7b, cxOf, Cx.nox, Cx.wish, tSeq, tAsg, tC, gName, tIfS, tTest, tOp, tUn, rU, rI0, rI, tVar, tNext, tBreak, tRet, tRetN, tDrop, tLst, tTup, tCons, tNil, tCB, tB, tOr, tAnd, tNot, tIf, tCall, tFor_eq, tLc_eq, iRng1, iRng2, iList, iTup, gTup, gTupH, gUnlH, gCons, gNil, gSub, rSetL, rIxL, rIxT, rIxLH, rIxTH, rSlTS, rCatS, rTupS, rIsiH, rLenS, V.ty.injEq, tyS_non, tyS_bl, tyS_int, tyS_str, tyS_ref, tyO_l, tyO_t, tyO_d, tyO_dt, kit_ll, kit_tt, kit_bb, kit_ii, kit_ib, kit_bi, kit_nt, kit_it, kit_st, kit_bt, kit_lt, kit_dt, kit_ni, kit_si, kit_ti, kit_li, kit_di, kit_nb, kit_ns, kit_is, kit_bs, kit_ss, kit_ts, kit_ls, kit_ds, kit_dd, lenS_ref, lenO_l, lenO_t,  rAppend, tM1, rIxS, tSl, tPart, tNoPart, tBM, tBM0, tDGetS, sDPutS, tTruS, truO_l, truO_t, truS_ref, truS_non, truS_bl, truS_int, tFld, sFld, sFldAug, rAdd, tMeth, tMake, tMakeK, List.take_succ_cons, List.take_zero, List.drop_succ_cons, List.drop_zero, List.take_nil, tIsN, tNotN, tAndV, tOrV, tNotV, putF, List.lookup, List.any_cons, List.any_nil, Sum.inr.injEq, HO.ins.injEq, HO.dK.injEq, eq_self, beq_self_eq_true, beq_iff_eq, decide_true, decide_false, Bool.or_true, Bool.true_or, Bool.or_false, Bool.false_or, tYes, rEq, rNe, _root_.L2.start, wipe, List.map_cons, List.map_nil, List.length_cons, List.length_nil, List.append_nil, Nat.reduceAdd, Nat.reduceSub, List.replicate_succ, List.replicate_zero, List.cons_append, List.nil_append, List.getElem?_cons_zero, List.getElem?_cons_succ, List.set_cons_zero, List.set_cons_succ, Option.some.injEq, V.int.injEq, V.ref.injEq, V.bl.injEq, V.str.injEq, List.cons.injEq, HO.lst.injEq, HO.tup.injEq, and_assoc, and_true, true_and, exists_eq_left, exists_eq_left', exists_and_left, exists_eq, reduceCtorEq, false_and, and_false, or_false, false_or, exists_false, decide_eq_true_eq, CPow, CDivW, Int.reducePow, Int.reduceLT, Int.reduceLE, Int.reduceNeg, Int.reduceToNat, Int.reduceAbs, Nat.reducePow, Nat.reduceLT, Nat.reduceLeDiff, sizeLine_eq, Int.reduceMul, Int.reduceAdd, Int.reduceSub, Bool.not_eq_true', decide_eq_false_iff_not, scal, Bool.not_true, Bool.not_false, Bool.true_eq_false, Bool.false_eq_true, ite_false, ite_true, if_true, if_false, ite_self, forall_const, atI0, atI1, atI2, atI3, ixN20, ixN21, upd_same, upd_upd, Int.zero_add, CMul, Int.reduceSub, Nat.le_refl, Nat.zero_le, or_true, true_or, exists_const, Int.sub_zero])
        have hwl5 := (E.em.step eS k).len
        refine ⟨l4, m5, _, B5.lk, B5.md, by omega, fun H6 s6 => ?_⟩
        try (try simp only [ne_0_1, ne_0_1b, ne_0_5, ne_0_5b, ne_0_6, ne_0_6b, ne_0_7, ne_0_7b, ne_1_0, ne_1_0b, ne_1_2, ne_1_2b, ne_1_3, ne_1_3b, ne_1_4, ne_1_4b, ne_1_5, ne_1_5b, ne_1_6, ne_1_6b, ne_1_7, ne_1_7b, ne_1_8, ne_1_8b, ne_2_1, ne_2_1b, ne_2_5, ne_2_5b, ne_2_6, ne_2_6b, ne_2_7, ne_2_7b, ne_3_1, ne_3_1b, ne_3_5, ne_3_5b, ne_3_6, ne_3_6b, ne_3_7, ne_3_7b, ne_4_1, ne_4_1b, ne_4_5, ne_4_5b, ne_4_6, ne_4_6b, ne_4_7, ne_4_7b, ne_5_0, ne_5_0b, ne_5_1, ne_5_1b, ne_5_2, ne_5_2b, ne_5_3, ne_5_3b, ne_5_4, ne_5_4b, ne_5_6, ne_5_6b, ne_5_7, ne_5_7b, ne_5_8, ne_5_8b, ne_6_0, ne_6_0b, ne_6_1, ne_6_1b, ne_6_2, ne_6_2b, ne_6_3, ne_6_3b, ne_6_4, ne_6_4b, ne_6_5, ne_6_5b, ne_6_7, ne_6_7b, ne_6_8, ne_6_8b, ne_7_0, ne_7_0b, ne_7_1, ne_7_1b, ne_7_2, ne_7_2b, ne_7_3, ne_7_3b, ne_7_4, ne_7_4b, ne_7_5, ne_7_5b, ne_7_6, ne_7_6b, ne_7_8, ne_7_8b, ne_8_1, ne_8_1b, ne_8_5, ne_8_5b, ne_8_6, ne_8_6b, ne_8_7, ne_8_7b, cxOf, Cx.nox, Cx.wish, tSeq, tAsg, tC, gName, tIfS, tTest, tOp, tUn, rU, rI0, rI, tVar, tNext, tBreak, tRet, tRetN, tDrop, tLst, tTup, tCons, tNil, tCB, tB, tOr, tAnd, tNot, tIf, tCall, tFor_eq, tLc_eq, iRng1, iRng2, iList, iTup, gTup, gTupH, gUnlH, gCons, gNil, gSub, rSetL, rIxL, rIxT, rIxLH, rIxTH, rSlTS, rCatS, rTupS, rIsiH, rLenS, V.ty.injEq, tyS_non, tyS_bl, tyS_int, tyS_str, tyS_ref, tyO_l, tyO_t, tyO_d, tyO_dt, kit_ll, kit_tt, kit_bb, kit_ii, kit_ib, kit_bi, kit_nt, kit_it, kit_st, kit_bt, kit_lt, kit_dt, kit_ni, kit_si, kit_ti, kit_li, kit_di, kit_nb, kit_ns, kit_is, kit_bs, kit_ss, kit_ts, kit_ls, kit_ds, kit_dd, lenS_ref, lenO_l, lenO_t,  rAppend, tM1, rIxS, tSl, tPart, tNoPart, tBM, tBM0, tDGetS, sDPutS, tTruS, truO_l, truO_t, truS_ref, truS_non, truS_bl, truS_int, tFld, sFld, sFldAug, rAdd, tMeth, tMake, tMakeK, List.take_succ_cons, List.take_zero, List.drop_succ_cons, List.drop_zero, List.take_nil, tIsN, tNotN, tAndV, tOrV, tNotV, putF, List.lookup, List.any_cons, List.any_nil, Sum.inr.injEq, HO.ins.injEq, HO.dK.injEq, eq_self, beq_self_eq_true, beq_iff_eq, decide_true, decide_false, Bool.or_true, Bool.true_or, Bool.or_false, Bool.false_or, tYes, rEq, rNe, _root_.L2.start, wipe, List.map_cons, List.map_nil, List.length_cons, List.length_nil, List.append_nil, Nat.reduceAdd, Nat.reduceSub, List.replicate_succ, List.replicate_zero, List.cons_append, List.nil_append, List.getElem?_cons_zero, List.getElem?_cons_succ, List.set_cons_zero, List.set_cons_succ, Option.some.injEq, V.int.injEq, V.ref.injEq, V.bl.injEq, V.str.injEq, List.cons.injEq, HO.lst.injEq, HO.tup.injEq, and_assoc, and_true, true_and, exists_eq_left, exists_eq_left', exists_and_left, exists_eq, reduceCtorEq, false_and, and_false, or_false, false_or, exists_false, decide_eq_true_eq, CPow, CDivW, Int.reducePow, Int.reduceLT, Int.reduceLE, Int.reduceNeg, Int.reduceToNat, Int.reduceAbs, Nat.reducePow, Nat.reduceLT, Nat.reduceLeDiff, sizeLine_eq, Int.reduceMul, Int.reduceAdd, Int.reduceSub, Bool.not_eq_true', decide_eq_false_iff_not, scal, Bool.not_true, Bool.not_false, Bool.true_eq_false, Bool.false_eq_true, ite_false, ite_true, if_true, if_false, ite_self, forall_const, atI0, atI1, atI2, atI3, ixN20, ixN21, upd_same, upd_upd, Int.zero_add, CMul, Int.reduceSub, Nat.le_refl, Nat.zero_le, or_true, true_or, exists_const, Int.sub_zero])
        have hD3n : ∀ b, H3 b = none → H b = none := fun b e => E.nn b (by
          cases z : H2 b with
          | none => rfl
          | some o =>
            by_cases e2 : b = D
            · subst e2; rw [hD3] at e; cases e
            · rw [fr3 b e2, z] at e; cases e)
        have hq3 : H3 q = some (.lst zs) := (fr3 q nDq.symm).trans E.hq
        have npD3 : p ≠ q := ne_il hp3 hq3
        have ndq : d ≠ q := by obtain ⟨_, _, e, _⟩ := B3.md; exact ne_dl e hq3
        have nDl4 : D ≠ l4 := by
          rcases hl4 with z | z
          · rw [z]; exact E.nDl
          · exact ne_of_none hD3 z
        have nql4 : q ≠ l4 := by
          rcases hl4 with z | z
          · rw [z]; exact E.nql
          · exact ne_of_none hq3 z
        have hD4 : H4 D = some (.lst xs') := b4.keep _ _ hD3 npD.symm E.nDl
        have hq4 : H4 q = some (.lst zs) := b4.keep _ _ hq3 npD3.symm E.nql
        have nDm5 : D ≠ m5 := by
          rcases hm5 with z | z
          · rw [z]; exact E.nDm
          · exact ne_of_none hD4 z
        have nqm5 : q ≠ m5 := by
          rcases hm5 with z | z
          · rw [z]; exact E.nqm
          · exact ne_of_none hq4 z
        refine ⟨l4, m5, _, _, xs', B5.same s6, E.em.step eS k, finS_inv _ _ E.iv, s6 _ _ (b5.keep _ _ hD4 ndD.symm E.nDm), ?_, s6 _ _ (b5.keep _ _ hq4 ndq.symm E.nqm), ?_, ?_, ?_, nDl4, nDm5, nql4, nqm5, E.hDn, ?_, ?_⟩
        · exact Same.ims s6 (ImAll.mono tk5 _ _ (ImAll.mono tk4 _ _ ix3))
        · exact Same.ims s6 (ImAll.mono tk5 _ _ (ImAll.mono tk4 _ _ (ImAll.mono tk3 _ _ E.iz)))
        · rcases hl4 with z | z
          · rw [z]; exact E.ol
          · exact .inr (hD3n _ z)
        · rcases hm5 with z | z
          · rw [z]; exact E.om
          · exact .inr (hD3n _ (b4.non _ z))
        · intro b o e n1 n2 n3 n4
          refine s6 _ _ (kp b o ((fr3 b (ne_of_none e E.hDn)).trans (E.fr b o e n1 n2 n3 n4)) n1 ?_ n3 ?_)
          · rcases E.ol with z | z
            · rw [z]; exact n2
            · exact ne_of_none e z
          · rcases E.om with z | z
            · rw [z]; exact n4
            · exact ne_of_none e z
        · intro b e
          exact hD3n b (b4.non _ (b5.non _ (Same.non s6 e)))
    · rintro σ H2 ⟨l1, m1, S, held, xs, b5, b6, rfl, E⟩
      obtain ⟨e1, e2, e3⟩ := E.em.over (.inr rfl) E.iv
      exact ⟨_, l1, m1, S, held, xs, b5, b6, rfl, E, by omega, e1, e2, e3⟩
/-- two locks with their models, all apart -/
structure Two (C : Addr) (H0 H : Hp) (q1 q2 p l d m : Addr) (S : LS) (p' l' d' m' : Addr) (S' : LS) : Prop where
  b1 : Both C H p l d m S
  b2 : Both C H p' l' d' m' S'
  pp : p ≠ p'
  dd : d ≠ d'
  ll : l ≠ l'
  lm : l ≠ m'
  ml : m ≠ l'
  mm : m ≠ m'
  q1l : q1 ≠ l
  q1m : q1 ≠ m
  q1l' : q1 ≠ l'
  q1m' : q1 ≠ m'
  q2l : q2 ≠ l
  q2m : q2 ≠ m
  q2l' : q2 ≠ l'
  q2m' : q2 ≠ m'
  n1 : H0 p = none
  n2 : H0 l = none
  n3 : H0 d = none
  n4 : H0 m = none
  n1' : H0 p' = none
  n2' : H0 l' = none
  n3' : H0 d' = none
  n4' : H0 m' = none
  i1 : S.Inv
  i2 : S'.Inv
  w1 : S.waiting.Nodup
  w2 : S'.waiting.Nodup
  sm : Same H0 H
theorem Two.swap {C : Addr} {H0 H : Hp} {q1 q2 p l d m : Addr} {S : LS} {p' l' d' m' : Addr} {S' : LS} (t : Two C H0 H q1 q2 p l d m S p' l' d' m' S') : Two C H0 H q1 q2 p' l' d' m' S' p l d m S :=
  ⟨t.b2, t.b1, t.pp.symm, t.dd.symm, t.ll.symm, t.ml.symm, t.lm.symm, t.mm.symm, t.q1l', t.q1m', t.q1l, t.q1m, t.q2l', t.q2m', t.q2l, t.q2m, t.n1', t.n2', t.n3', t.n4', t.n1, t.n2, t.n3, t.n4, t.i2, t.i1, t.w2, t.w1, t.sm⟩
/-- what else there is, stands behind a change at one lock -/
theorem Two.other {C : Addr} {H0 H H' : Hp} {q1 q2 p l d m : Addr} {S : LS} {p' l' d' m' : Addr} {S' : LS} (t : Two C H0 H q1 q2 p l d m S p' l' d' m' S')
    (fr : ∀ b o, H b = some o → b ≠ p → b ≠ l → b ≠ d → b ≠ m → H' b = some o) : Both C H' p' l' d' m' S' := by
  obtain ⟨dx, hv, ws, hp, ih, hl, iw⟩ := id t.b1.lk
  obtain ⟨hv', ws', hd, ihd, hm, iwm⟩ := id t.b1.md
  obtain ⟨dx2, hv2, ws2, hp2, ih2, hl2, iw2⟩ := id t.b2.lk
  obtain ⟨hv2', ws2', hd2, ihd2, hm2, iwm2⟩ := id t.b2.md
  have tk : Tk H H' := fun b xs e => fr b _ e (fun z => by subst z; rw [hp] at e; cases e) (fun z => by subst z; rw [hl] at e; cases e) (fun z => by subst z; rw [hd] at e; cases e) (fun z => by subst z; rw [hm] at e; cases e)
  have e1 := fr _ _ hp2 t.pp.symm (ne_il hp2 hl) (ne_id hp2 hd) (ne_il hp2 hm)
  have e2 := fr _ _ hl2 (ne_il hp hl2).symm t.ll.symm (ne_dl hd hl2).symm t.ml.symm
  have e3 := fr _ _ hd2 (ne_id hp hd2).symm (ne_dl hd2 hl) t.dd.symm (ne_dl hd2 hm)
  have e4 := fr _ _ hm2 (ne_il hp hm2).symm t.lm.symm (ne_dl hd hm2).symm t.mm.symm
  exact ⟨⟨dx2, hv2, ws2, e1, Im.mono tk _ _ ih2, e2, ImAll.mono tk _ _ iw2⟩, ⟨hv2', ws2', e3, Im.mono tk _ _ ihd2, e4, ImAll.mono tk _ _ iwm2⟩, t.b2.ne⟩
theorem Both.gn {C s p l d m : Addr} {H H' : Hp} {S : LS} (B : Both C H p l d m S) (g : Gn s H H') (hs : St2 H s) (nl : l ≠ s) (nm : m ≠ s) : Both C H' p l d m S := by
  obtain ⟨dx, hv, ws, hp, _⟩ := id B.lk
  obtain ⟨hv', ws', hd, _⟩ := id B.md
  obtain ⟨x, y, e⟩ := hs
  have np : p ≠ s := ne_il hp e
  have nd : d ≠ s := ne_dl hd e
  exact ⟨B.lk.keep g.tk fun b o e h => g.but b o e (h.elim (fun z => z ▸ np) fun z => z ▸ nl), B.md.keep g.tk fun b o e h => g.but b o e (h.elim (fun z => z ▸ nd) fun z => z ▸ nm), B.ne⟩
section
variable {C : Addr} {H0 H H' : Hp} {q1 q2 p l d m : Addr} {S : LS} {p' l' d' m' : Addr} {S' : LS}
theorem Two.same (t : Two C H0 H q1 q2 p l d m S p' l' d' m' S') (s : Same H H') : Two C H0 H' q1 q2 p l d m S p' l' d' m' S' :=
  { t with b1 := t.b1.same s, b2 := t.b2.same s, sm := t.sm.trans s }
theorem Two.gn {s : Addr} (t : Two C H0 H q1 q2 p l d m S p' l' d' m' S') (g : Gn s H H') (hs : St2 H s) (n1 : l ≠ s) (n2 : m ≠ s) (n3 : l' ≠ s) (n4 : m' ≠ s) (n0 : H0 s = none) : Two C H0 H' q1 q2 p l d m S p' l' d' m' S' :=
  { t with b1 := t.b1.gn g hs n1 n2, b2 := t.b2.gn g hs n3 n4, sm := fun b o e => g.but b o (t.sm b o e) (ne_of_none e n0) }
theorem Two.step {s l1 m1 : Addr} {S1 : LS} (t : Two C H0 H q1 q2 p l d m S p' l' d' m' S') (hs : St2 H s) (n3 : l' ≠ s) (n4 : m' ≠ s) (n0 : H0 s = none) (nn : ∀ b, H b = none → H0 b = none)
    (B' : Both C H' p l1 d m1 S1) (hl : l1 = l ∨ H l1 = none) (hm : m1 = m ∨ H m1 = none) (fr : ∀ b o, H b = some o → b ≠ s → b ≠ p → b ≠ l → b ≠ d → b ≠ m → H' b = some o)
    (hq1 : ∃ o, H q1 = some o) (hq2 : ∃ o, H q2 = some o) (hi : S.Inv → S1.Inv) (hw : S1.waiting.Nodup) : Two C H0 H' q1 q2 p l1 d m1 S1 p' l' d' m' S' := by
  obtain ⟨dx, hv, ws, hp, ih, hhl, iw⟩ := id t.b1.lk
  obtain ⟨hv', ws', hd, ihd, hhm, iwm⟩ := id t.b1.md
  obtain ⟨dx2, hv2, ws2, hp2, ih2, hl2, iw2⟩ := id t.b2.lk
  obtain ⟨hv2', ws2', hd2, ihd2, hm2, iwm2⟩ := id t.b2.md
  obtain ⟨sx, sy, hss⟩ := hs
  obtain ⟨o1, hq1⟩ := hq1
  obtain ⟨o2, hq2⟩ := hq2
  have np' : p' ≠ s := ne_il hp2 hss
  have nd' : d' ≠ s := ne_dl hd2 hss
  have tk : Tk H H' := fun b xs e => fr b _ e (fun z => by subst z; rw [hss] at e; cases e) (fun z => by subst z; rw [hp] at e; cases e) (fun z => by subst z; rw [hhl] at e; cases e) (fun z => by subst z; rw [hd] at e; cases e) (fun z => by subst z; rw [hhm] at e; cases e)
  have e1 := fr _ _ hp2 np' t.pp.symm (ne_il hp2 hhl) (ne_id hp2 hd) (ne_il hp2 hhm)
  have e2 := fr _ _ hl2 n3 (ne_il hp hl2).symm t.ll.symm (ne_dl hd hl2).symm t.ml.symm
  have e3 := fr _ _ hd2 nd' (ne_id hp hd2).symm (ne_dl hd2 hhl) t.dd.symm (ne_dl hd2 hhm)
  have e4 := fr _ _ hm2 n4 (ne_il hp hm2).symm t.lm.symm (ne_dl hd hm2).symm t.mm.symm
  have b2 : Both C H' p' l' d' m' S' := ⟨⟨dx2, hv2, ws2, e1, Im.mono tk _ _ ih2, e2, ImAll.mono tk _ _ iw2⟩, ⟨hv2', ws2', e3, Im.mono tk _ _ ihd2, e4, ImAll.mono tk _ _ iwm2⟩, t.b2.ne⟩
  have ll : ∀ {x : Addr} {o : HO}, H x = some o → x ≠ l → x ≠ l1 := fun e n => by
    rcases hl with z | z
    · rw [z]; exact n
    · exact ne_of_none e z
  have mm : ∀ {x : Addr} {o : HO}, H x = some o → x ≠ m → x ≠ m1 := fun e n => by
    rcases hm with z | z
    · rw [z]; exact n
    · exact ne_of_none e z
  exact { t with
    b1 := B', b2 := b2
    ll := (ll hl2 t.ll.symm).symm, lm := (ll hm2 t.lm.symm).symm, ml := (mm hl2 t.ml.symm).symm, mm := (mm hm2 t.mm.symm).symm
    q1l := ll hq1 t.q1l, q1m := mm hq1 t.q1m, q2l := ll hq2 t.q2l, q2m := mm hq2 t.q2m
    n2 := hl.elim (fun z => z ▸ t.n2) fun z => nn _ z
    n4 := hm.elim (fun z => z ▸ t.n4) fun z => nn _ z
    i1 := hi t.i1, w1 := hw
    sm := fun b o e => fr b o (t.sm b o e) (ne_of_none e n0) (ne_of_none e t.n1) (ne_of_none e t.n2) (ne_of_none e t.n3) (ne_of_none e t.n4) }
end

theorem ok_law (T : Txt K mg) : FnOk P w K mg base CX0 5 T.f_law T.d_law ["_law_script"] (spLaw K) := by
  refine Fun.ok T.F_law sc_law (fun vs H Q E h => ?_) (fun cdv A outer s H vs Q E hr h => ?_)
  · obtain ⟨a, ns, rfl, hS, hlen, kk⟩ := h; rfl
  · obtain ⟨a, ns, rfl, hS, hlen, kk⟩ := h
    have hu := hu_of hr
    refine ⟨_, (pss_cons (ps_set (i := 1) sc_law.nd rfl (Or.inl rfl) (pe_lst (pa_cons (pe_make0 T.M_Lock (ok_Lock_init T) (hr.mono (by decide)) rfl T.gC_Lock T.b_Lock_init_1 T.dv_Lock_init_1 pass0) (pa_cons (pe_make0 T.M_Lock (ok_Lock_init T) (hr.mono (by decide)) rfl T.gC_Lock T.b_Lock_init_1 T.dv_Lock_init_1 pass0) pa_nil))))
      (pss_cons (ps_set (i := 2) sc_law.nd rfl (Or.inl rfl) (pe_lst (pa_cons (pe_call (ok_law_model T) (hr.mono (by decide)) rfl T.g_law_model T.F_law_model.kp T.b_law_model .nil pass0 (pa_cons pe_int (pa_cons pe_int (pa_cons pe_non pa_nil)))) (pa_cons (pe_call (ok_law_model T) (hr.mono (by decide)) rfl T.g_law_model T.F_law_model.kp T.b_law_model .nil pass0 (pa_cons pe_int (pa_cons pe_int (pa_cons pe_non pa_nil)))) pa_nil))))
      (pss_cons (ps_for PassesOwn.never rfl (pi_range1 (by rfl) T.z_range (pa_cons (pe_callB (call_min2 rfl) (by rfl) T.z_min (by decide +kernel) (pa_cons (pe_callB call_len (by rfl) T.z_len (by decide +kernel) (pa_cons (pv 0) pa_nil)) (pa_cons pe_int pa_nil))) pa_nil)) (pg_name (i := 3) sc_law.nd rfl (Or.inl rfl))
      (pss_cons (ps_set (i := 4) sc_law.nd rfl (Or.inl rfl) (pe_call (ok_law_stream T) (hr.mono (by decide)) rfl T.g_law_stream T.F_law_stream.kp T.b_law_stream .nil pass0 (pa_cons (pe_ix ix_list (pv 0) (pv 3) (fun _ _ => rfl)) (pa_cons (pv 3) pa_nil))))
      (pss_cons (ps_set (i := 5) sc_law.nd rfl (Or.inl rfl) (pe_call (ok_law_next T) (hr.mono (by decide)) rfl T.g_law_next T.F_law_next.kp T.b_law_next .nil pass0 (pa_cons (pv 4) (pa_cons pe_int pa_nil))))
      (pss_cons (ps_asg (pe_call (ok_law_deed T) (hr.mono (by decide)) rfl T.g_law_deed T.F_law_deed.kp T.b_law_deed .nil pass0 (pa_cons (pe_ix ix_listH (pv 1) (pv 5) (fun _ _ => rfl)) (pa_cons (pe_ix ix_listH (pv 2) (pv 5) (fun _ _ => rfl)) (pa_cons (pv 4) pa_nil)))) (pg_unlH 2 rfl (pgs_cons (pg_name (i := 6) sc_law.nd rfl (Or.inl rfl)) (pgs_cons (pg_name (i := 7) sc_law.nd rfl (Or.inl rfl)) pgs_nil))))
      (pss_one (ps_if (PW.pt (pw_or (pt_cmpR (op_neDK (K := K) rfl hr.units) (pv 6) (pv 7) (nomark _)) (pw_or (pt_not (pt_val (pe_call (ok_law_lock_is T) (hr.mono (by decide)) rfl T.g_law_lock_is T.F_law_lock_is.kp T.b_law_lock_is .nil pass0 (pa_cons (pe_ix ix_listH (pv 1) pe_int (fun _ _ => rfl)) (pa_cons (pe_ix ix_listH (pv 2) pe_int (fun _ _ => rfl)) pa_nil))))) (pw_or1 (pt_not (pt_val (pe_call (ok_law_lock_is T) (hr.mono (by decide)) rfl T.g_law_lock_is T.F_law_lock_is.kp T.b_law_lock_is .nil pass0 (pa_cons (pe_ix ix_listH (pv 1) pe_int (fun _ _ => rfl)) (pa_cons (pe_ix ix_listH (pv 2) pe_int (fun _ _ => rfl)) pa_nil))))))))) (pss_one (ps_ret pe_bl)) pss_nil))))))
      (pss_one (ps_ret (pe_and (pe_call (ok_law_emptied T) (hr.mono (by decide)) rfl T.g_law_emptied T.F_law_emptied.kp T.b_law_emptied .nil pass0 (pa_cons (pe_ix ix_listH (pv 1) pe_int (fun _ _ => rfl)) (pa_cons (pe_ix ix_listH (pv 2) pe_int (fun _ _ => rfl)) pa_nil))) (pe_one (pe_call (ok_law_emptied T) (hr.mono (by decide)) rfl T.g_law_emptied T.F_law_emptied.kp T.b_law_emptied .nil pass0 (pa_cons (pe_ix ix_listH (pv 1) pe_int (fun _ _ => rfl)) (pa_cons (pe_ix ix_listH (pv 2) pe_int (fun _ _ => rfl)) pa_nil)))))))))), ?_⟩
    (try simp only [ne_0_1, ne_0_1b, ne_0_5, ne_0_5b, ne_0_6, ne_0_6b, ne_0_7, ne_0_7b, ne_1_0, ne_1_0b, ne_1_2, ne_1_2b, ne_1_3, ne_1_3b, ne_1_4, ne_1_4b, ne_1_5, ne_1_5b, ne_1_6, ne_1_6b, ne_1_7, ne_1_7b, ne_1_8, ne_1_8b, ne_2_1, ne_2_1b, ne_2_5, ne_2_5b, ne_2_6, ne_2_6b, ne_2_7, ne_2_7b, ne_3_1, ne_3_1b, ne_3_5, ne_3_5b, ne_3_6, ne_3_6b, ne_3_7, ne_3_7b, ne_4_1, ne_4_1b, ne_4_5, ne_4_5b, ne_4_6, ne_4_6b, ne_4_7, ne_4_7b, ne_5_0, ne_5_0b, ne_5_1, ne_5_1b, ne_5_2, ne_5_2b, ne_5_3, ne_5_3b, ne_5_4, ne_5_4b, ne_5_6, ne_5_6b, ne_5_7, ne_5_7b, ne_5_8, ne_5_8b, ne_6_0, ne_6_0b, ne_6_1, ne_6_1b, ne_6_2, ne_6_2b, ne_6_3, ne_6_3b, ne_6_4, ne_6_4b, ne_6_5, ne_6_5b, ne_6_7, ne_6_7b, ne_6_8, ne_6_8b, ne_7_0, ne_7_0b, ne_7_1, ne_7_1b, ne_7_2, ne_7_2b, ne_7_3, ne_7_3b, ne_7_4, ne_7_4b, ne_7_5, ne_7_5b, ne_7_6, ne_7_6b, ne_7_8, ne_7_8b, ne_8_1, ne_8_1b, ne_8_5, ne_8_5b, ne_8_6, ne_8_6b, ne_8_7, ne_8_7b, cxOf, Cx.nox, Cx.wish, tSeq, tAsg, tC, gName, tIfS, tTest, tOp, tUn, rU, rI0, rI, tVar, tNext, tBreak, tRet, tRetN, tDrop, tLst, tTup, tCons, tNil, tCB, tB, tOr, tAnd, tNot, tIf, tCall, tFor_eq, tLc_eq, iRng1, iRng2, iList, iTup, gTup, gTupH, gUnlH, gCons, gNil, gSub, rSetL, rIxL, rIxT, rIxLH, rIxTH, rSlTS, rCatS, rTupS, rIsiH, rLenS, V.ty.injEq, tyS_non, tyS_bl, tyS_int, tyS_str, tyS_ref, tyO_l, tyO_t, tyO_d, tyO_dt, kit_ll, kit_tt, kit_bb, kit_ii, kit_ib, kit_bi, kit_nt, kit_it, kit_st, kit_bt, kit_lt, kit_dt, kit_ni, kit_si, kit_ti, kit_li, kit_di, kit_nb, kit_ns, kit_is, kit_bs, kit_ss, kit_ts, kit_ls, kit_ds, kit_dd, lenS_ref, lenO_l, lenO_t,  rAppend, tM1, rIxS, tSl, tPart, tNoPart, tBM, tBM0, tDGetS, sDPutS, tTruS, truO_l, truO_t, truS_ref, truS_non, truS_bl, truS_int, tFld, sFld, sFldAug, rAdd, tMeth, tMake, tMakeK, List.take_succ_cons, List.take_zero, List.drop_succ_cons, List.drop_zero, List.take_nil, tIsN, tNotN, tAndV, tOrV, tNotV, putF, List.lookup, List.any_cons, List.any_nil, Sum.inr.injEq, HO.ins.injEq, HO.dK.injEq, eq_self, beq_self_eq_true, beq_iff_eq, decide_true, decide_false, Bool.or_true, Bool.true_or, Bool.or_false, Bool.false_or, tYes, rEq, rNe, _root_.L2.start, wipe, List.map_cons, List.map_nil, List.length_cons, List.length_nil, List.append_nil, Nat.reduceAdd, Nat.reduceSub, List.replicate_succ, List.replicate_zero, List.cons_append, List.nil_append, List.getElem?_cons_zero, List.getElem?_cons_succ, List.set_cons_zero, List.set_cons_succ, Option.some.injEq, V.int.injEq, V.ref.injEq, V.bl.injEq, V.str.injEq, List.cons.injEq, HO.lst.injEq, HO.tup.injEq, and_assoc, and_true, true_and, exists_eq_left, exists_eq_left', exists_and_left, exists_eq, reduceCtorEq, false_and, and_false, or_false, false_or, exists_false, decide_eq_true_eq, CPow, CDivW, Int.reducePow, Int.reduceLT, Int.reduceLE, Int.reduceNeg, Int.reduceToNat, Int.reduceAbs, Nat.reducePow, Nat.reduceLT, Nat.reduceLeDiff, sizeLine_eq, Int.reduceMul, Int.reduceAdd, Int.reduceSub, Bool.not_eq_true', decide_eq_false_iff_not, scal, Bool.not_true, Bool.not_false, Bool.true_eq_false, Bool.false_eq_true, ite_false, ite_true, if_true, if_false, ite_self, forall_const, atI0, atI1, atI2, atI3, ixN20, ixN21, upd_same, upd_upd, Int.zero_add, CMul, Int.reduceSub, Nat.le_refl, Nat.zero_le, or_true, true_or, exists_const, Int.sub_zero, sp_Lock_init, sp_law_model])
    intro p x1 hp hx1 nx1
    refine ⟨none, im_non, fun l H1 hl L1 b1 p' x2 hp' hx2 nx2 => ⟨none, im_non, fun l' H2 hl' L2' b2 q1 hq1 => ⟨none, im_non, fun d m H4 hd hm M4 s4 => ⟨none, im_non, fun d' m' H5 hd' hm' M5 s5 q2 hq2 => ?_⟩⟩⟩⟩
    have s1 : Same H H1 := fun b o e => b1.keep b o (same_made (C := T.C_Lock) hp hx1 b o e) (ne_of_none e hp) (ne_of_none e hp)
    have s2 : Same H1 H2 := fun b o e => b2.keep b o (same_made (C := T.C_Lock) hp' hx2 b o e) (ne_of_none e hp') (ne_of_none e hp')
    have s3 : Same H2 (upd H2 q1 (.lst [.ref p, .ref p'])) := same_new hq1
    have s6 : Same H5 (upd H5 q2 (.lst [.ref d, .ref d'])) := same_new hq2
    have hq1' : upd H2 q1 (.lst [.ref p, .ref p']) q1 = some (.lst [.ref p, .ref p']) := upd_same
    have hq2' : upd H5 q2 (.lst [.ref d, .ref d']) q2 = some (.lst [.ref d, .ref d']) := upd_same
    have hl0 := made_none hl
    have hl0' := made_none hl'
    obtain ⟨_, _, _, e1, _, f1, _⟩ := id L1
    obtain ⟨_, _, _, e2, _, f2, _⟩ := id L2'
    obtain ⟨_, _, e4, _, f4, _⟩ := id M4
    obtain ⟨_, _, e5, _, f5, _⟩ := id M5
    generalize upd H5 q2 (.lst [.ref d, .ref d']) = H6 at s6 hq2'
    generalize upd H2 q1 (.lst [.ref p, .ref p']) = H3 at s3 hq1' hd hm s4
    have t : Two T.C_Lock H H6 q1 q2 p l d m ⟨0, 0, none, []⟩ p' l' d' m' ⟨0, 0, none, []⟩ := by
      have s46 := s5.trans s6
      have s36 := s4.trans s46
      have s26 := s3.trans s36
      have s16 := s2.trans s26
      have s13 := s2.trans s3
      have n1 : ∀ b, H1 b = none → H b = none := fun b e => Same.non s1 e
      have n3 : ∀ b, H3 b = none → H b = none := fun b e => Same.non (s1.trans s13) e
      have n4 : ∀ b, H4 b = none → H b = none := fun b e => n3 b (Same.non s4 e)
      exact { b1 := ⟨L1.same s16, M4.same s46, ne_of_none (s13 _ _ f1) hm⟩, b2 := ⟨L2'.same s26, M5.same s6, ne_of_none (s4 _ _ (s3 _ _ f2)) hm'⟩
              pp := ne_of_none e1 hp', dd := ne_of_none e4 hd', ll := ne_of_none f1 hl0', lm := ne_of_none (s4 _ _ (s13 _ _ f1)) hm', ml := (ne_of_none (s3 _ _ f2) hm).symm, mm := ne_of_none f4 hm'
              q1l := (ne_of_none (s2 _ _ f1) hq1).symm, q1m := ne_of_none hq1' hm, q1l' := (ne_of_none f2 hq1).symm, q1m' := ne_of_none (s4 _ _ hq1') hm'
              q2l := (ne_of_none (s5 _ _ (s4 _ _ (s13 _ _ f1))) hq2).symm, q2m := (ne_of_none (s5 _ _ f4) hq2).symm, q2l' := (ne_of_none (s5 _ _ (s4 _ _ (s3 _ _ f2))) hq2).symm, q2m' := (ne_of_none f5 hq2).symm
              n1 := hp, n2 := hl0, n3 := n3 _ hd, n4 := n3 _ hm, n1' := n1 _ hp', n2' := n1 _ hl0', n3' := n4 _ hd', n4' := n4 _ hm'
              i1 := fun _ => rfl, i2 := fun _ => rfl, w1 := List.nodup_nil, w2 := List.nodup_nil, sm := s1.trans s16 }
    have h1 : H6 q1 = some (.lst [.ref p, .ref p']) := s6 _ _ (s5 _ _ (s4 _ _ hq1'))
    have hq1n : H q1 = none := Same.non (s1.trans s2) hq1
    have hq2n : H q2 = none := Same.non s1 (Same.non s2 (Same.non s3 (Same.non s4 (Same.non s5 hq2))))
    clear L1 L2' M4 M5 b1 b2 s1 s2 s3 s4 s5 s6 hq1' hp hx1 nx1 hp' hx2 nx2 hl hl' hl0 hl0' hd hm hd' hm' hq1 hq2 e1 f1 e2 f2 e4 f4 e5 f5
    (try simp only [ne_0_1, ne_0_1b, ne_0_5, ne_0_5b, ne_0_6, ne_0_6b, ne_0_7, ne_0_7b, ne_1_0, ne_1_0b, ne_1_2, ne_1_2b, ne_1_3, ne_1_3b, ne_1_4, ne_1_4b, ne_1_5, ne_1_5b, ne_1_6, ne_1_6b, ne_1_7, ne_1_7b, ne_1_8, ne_1_8b, ne_2_1, ne_2_1b, ne_2_5, ne_2_5b, ne_2_6, ne_2_6b, ne_2_7, ne_2_7b, ne_3_1, ne_3_1b, ne_3_5, ne_3_5b, ne_3_6, ne_3_6b, ne_3_7, ne_3_7b, ne_4_1, ne_4_1b, ne_4_5, ne_4_5b, ne_4_6, ne_4_6b, ne_4_7, ne_4_7b, ne_5_0, ne_5_0b, ne_5_1, ne_5_1b, ne_5_2, ne_5_2b, ne_5_3, ne_5_3b, ne_5_4, ne_5_4b, ne_5_6, ne_5_6b, ne_5_7, ne_5_7b, ne_5_8, ne_5_8b, ne_6_0, ne_6_0b, ne_6_1, ne_6_1b, ne_6_2, ne_6_2b, ne_6_3, ne_6_3b, ne_6_4, ne_6_4b, ne_6_5, ne_6_5b, ne_6_7, ne_6_7b, ne_6_8, ne_6_8b, ne_7_0, ne_7_0b, ne_7_1, ne_7_1b, ne_7_2, ne_7_2b, ne_7_3, ne_7_3b, ne_7_4, ne_7_4b, ne_7_5, ne_7_5b, ne_7_6, ne_7_6b, ne_7_8, ne_7_8b, ne_8_1, ne_8_1b, ne_8_5, ne_8_5b, ne_8_6, ne_8_6b, ne_8_7, ne_8_7b, cxOf, Cx.nox, Cx.wish, tSeq, tAsg, tC, gName, tIfS, tTest, tOp, tUn, rU, rI0, rI, tVar, tNext, tBreak, tRet, tRetN, tDrop, tLst, tTup, tCons, tNil, tCB, tB, tOr, tAnd, tNot, tIf, tCall, tFor_eq, tLc_eq, iRng1, iRng2, iList, iTup, gTup, gTupH, gUnlH, gCons, gNil, gSub, rSetL, rIxL, rIxT, rIxLH, rIxTH, rSlTS, rCatS, rTupS, rIsiH, rLenS, V.ty.injEq, tyS_non, tyS_bl, tyS_int, tyS_str, tyS_ref, tyO_l, tyO_t, tyO_d, tyO_dt, kit_ll, kit_tt, kit_bb, kit_ii, kit_ib, kit_bi, kit_nt, kit_it, kit_st, kit_bt, kit_lt, kit_dt, kit_ni, kit_si, kit_ti, kit_li, kit_di, kit_nb, kit_ns, kit_is, kit_bs, kit_ss, kit_ts, kit_ls, kit_ds, kit_dd, lenS_ref, lenO_l, lenO_t,  rAppend, tM1, rIxS, tSl, tPart, tNoPart, tBM, tBM0, tDGetS, sDPutS, tTruS, truO_l, truO_t, truS_ref, truS_non, truS_bl, truS_int, tFld, sFld, sFldAug, rAdd, tMeth, tMake, tMakeK, List.take_succ_cons, List.take_zero, List.drop_succ_cons, List.drop_zero, List.take_nil, tIsN, tNotN, tAndV, tOrV, tNotV, putF, List.lookup, List.any_cons, List.any_nil, Sum.inr.injEq, HO.ins.injEq, HO.dK.injEq, eq_self, beq_self_eq_true, beq_iff_eq, decide_true, decide_false, Bool.or_true, Bool.true_or, Bool.or_false, Bool.false_or, tYes, rEq, rNe, _root_.L2.start, wipe, List.map_cons, List.map_nil, List.length_cons, List.length_nil, List.append_nil, Nat.reduceAdd, Nat.reduceSub, List.replicate_succ, List.replicate_zero, List.cons_append, List.nil_append, List.getElem?_cons_zero, List.getElem?_cons_succ, List.set_cons_zero, List.set_cons_succ, Option.some.injEq, V.int.injEq, V.ref.injEq, V.bl.injEq, V.str.injEq, List.cons.injEq, HO.lst.injEq, HO.tup.injEq, and_assoc, and_true, true_and, exists_eq_left, exists_eq_left', exists_and_left, exists_eq, reduceCtorEq, false_and, and_false, or_false, false_or, exists_false, decide_eq_true_eq, CPow, CDivW, Int.reducePow, Int.reduceLT, Int.reduceLE, Int.reduceNeg, Int.reduceToNat, Int.reduceAbs, Nat.reducePow, Nat.reduceLT, Nat.reduceLeDiff, sizeLine_eq, Int.reduceMul, Int.reduceAdd, Int.reduceSub, Bool.not_eq_true', decide_eq_false_iff_not, scal, Bool.not_true, Bool.not_false, Bool.true_eq_false, Bool.false_eq_true, ite_false, ite_true, if_true, if_false, ite_self, forall_const, atI0, atI1, atI2, atI3, ixN20, ixN21, upd_same, upd_upd, Int.zero_add, CMul, Int.reduceSub, Nat.le_refl, Nat.zero_le, or_true, true_or, exists_const, Int.sub_zero])
    refine ⟨ns.length, .inl ⟨_, t.sm.seq hS, by simp⟩, ?_⟩
    have hmn : (if (60 : Int) < (ns.length : Int) then (60 : Int) else (ns.length : Int)) = ((min 60 ns.length : Nat) : Int) := by split <;> omega
    rw [hmn]
    refine ⟨by omega, by omega, Loop.range (fun i σ H' => ∃ (l m l' m' : Addr) (S S' : LS) (b3 b4 b5 b6 b7 : Option V), σ = [some (.ref a), some (.ref q1), some (.ref q2), b3, b4, b5, b6, b7] ∧ Two T.C_Lock H H' q1 q2 p l d m S p' l' d' m' S' ∧ H' q1 = some (.lst [.ref p, .ref p']) ∧ H' q2 = some (.lst [.ref d, .ref d']) ∧ S.waiting.length ≤ i ∧ S'.waiting.length ≤ i)
      ⟨l, m, l', m', _, _, none, none, none, none, none, rfl, t, h1, hq2', by simp, by simp⟩ ?_ ?_⟩
    · clear t h1 hq2'
      rintro i σ H4 hi ⟨l, m, l', m', S, S', b3, b4, b5, b6, b7, rfl, t4, h1, h2, hn, hn'⟩
      have hi2 : i < ns.length := by omega
      have hx : (ns.map V.int)[i]? = some (.int ns[i]) := by simp [hi2]
      (try simp only [ne_0_1, ne_0_1b, ne_0_5, ne_0_5b, ne_0_6, ne_0_6b, ne_0_7, ne_0_7b, ne_1_0, ne_1_0b, ne_1_2, ne_1_2b, ne_1_3, ne_1_3b, ne_1_4, ne_1_4b, ne_1_5, ne_1_5b, ne_1_6, ne_1_6b, ne_1_7, ne_1_7b, ne_1_8, ne_1_8b, ne_2_1, ne_2_1b, ne_2_5, ne_2_5b, ne_2_6, ne_2_6b, ne_2_7, ne_2_7b, ne_3_1, ne_3_1b, ne_3_5, ne_3_5b, ne_3_6, ne_3_6b, ne_3_7, ne_3_7b, ne_4_1, ne_4_1b, ne_4_5, ne_4_5b, ne_4_6, ne_4_6b, ne_4_7, ne_4_7b, ne_5_0, ne_5_0b, ne_5_1, ne_5_1b, ne_5_2, ne_5_2b, ne_5_3, ne_5_3b, ne_5_4, ne_5_4b, ne_5_6, ne_5_6b, ne_5_7, ne_5_7b, ne_5_8, ne_5_8b, ne_6_0, ne_6_0b, ne_6_1, ne_6_1b, ne_6_2, ne_6_2b, ne_6_3, ne_6_3b, ne_6_4, ne_6_4b, ne_6_5, ne_6_5b, ne_6_7, ne_6_7b, ne_6_8, ne_6_8b, ne_7_0, ne_7_0b, ne_7_1, ne_7_1b, ne_7_2, ne_7_2b, ne_7_3, ne_7_3b, ne_7_4, ne_7_4b, ne_7_5, ne_7_5b, ne_7_6, ne_7_6b, ne_7_8, ne_7_8b, ne_8_1, ne_8_1b, ne_8_5, ne_8_5b, ne_8_6, ne_8_6b, ne_8_7, ne_8_7b, cxOf, Cx.nox, Cx.wish, tSeq, tAsg, tC, gName, tIfS, tTest, tOp, tUn, rU, rI0, rI, tVar, tNext, tBreak, tRet, tRetN, tDrop, tLst, tTup, tCons, tNil, tCB, tB, tOr, tAnd, tNot, tIf, tCall, tFor_eq, tLc_eq, iRng1, iRng2, iList, iTup, gTup, gTupH, gUnlH, gCons, gNil, gSub, rSetL, rIxL, rIxT, rIxLH, rIxTH, rSlTS, rCatS, rTupS, rIsiH, rLenS, V.ty.injEq, tyS_non, tyS_bl, tyS_int, tyS_str, tyS_ref, tyO_l, tyO_t, tyO_d, tyO_dt, kit_ll, kit_tt, kit_bb, kit_ii, kit_ib, kit_bi, kit_nt, kit_it, kit_st, kit_bt, kit_lt, kit_dt, kit_ni, kit_si, kit_ti, kit_li, kit_di, kit_nb, kit_ns, kit_is, kit_bs, kit_ss, kit_ts, kit_ls, kit_ds, kit_dd, lenS_ref, lenO_l, lenO_t,  rAppend, tM1, rIxS, tSl, tPart, tNoPart, tBM, tBM0, tDGetS, sDPutS, tTruS, truO_l, truO_t, truS_ref, truS_non, truS_bl, truS_int, tFld, sFld, sFldAug, rAdd, tMeth, tMake, tMakeK, List.take_succ_cons, List.take_zero, List.drop_succ_cons, List.drop_zero, List.take_nil, tIsN, tNotN, tAndV, tOrV, tNotV, putF, List.lookup, List.any_cons, List.any_nil, Sum.inr.injEq, HO.ins.injEq, HO.dK.injEq, eq_self, beq_self_eq_true, beq_iff_eq, decide_true, decide_false, Bool.or_true, Bool.true_or, Bool.or_false, Bool.false_or, tYes, rEq, rNe, _root_.L2.start, wipe, List.map_cons, List.map_nil, List.length_cons, List.length_nil, List.append_nil, Nat.reduceAdd, Nat.reduceSub, List.replicate_succ, List.replicate_zero, List.cons_append, List.nil_append, List.getElem?_cons_zero, List.getElem?_cons_succ, List.set_cons_zero, List.set_cons_succ, Option.some.injEq, V.int.injEq, V.ref.injEq, V.bl.injEq, V.str.injEq, List.cons.injEq, HO.lst.injEq, HO.tup.injEq, and_assoc, and_true, true_and, exists_eq_left, exists_eq_left', exists_and_left, exists_eq, reduceCtorEq, false_and, and_false, or_false, false_or, exists_false, decide_eq_true_eq, CPow, CDivW, Int.reducePow, Int.reduceLT, Int.reduceLE, Int.reduceNeg, Int.reduceToNat, Int.reduceAbs, Nat.reducePow, Nat.reduceLT, Nat.reduceLeDiff, sizeLine_eq, Int.reduceMul, Int.reduceAdd, Int.reduceSub, Bool.not_eq_true', decide_eq_false_iff_not, scal, Bool.not_true, Bool.not_false, Bool.true_eq_false, Bool.false_eq_true, ite_false, ite_true, if_true, if_false, ite_self, forall_const, atI0, atI1, atI2, atI3, ixN20, ixN21, upd_same, upd_upd, Int.zero_add, CMul, Int.reduceSub, Nat.le_refl, Nat.zero_le, or_true, true_or, exists_const, Int.sub_zero, sp_law_stream, sp_law_next])
      refine ⟨_, t4.sm.seq hS, _, atI_nat hx, ns[i], rfl, fun s0 H5 hs0 st5 s5 _ => ⟨st5, fun w H6 w0 w1 g6 => ?_⟩⟩
      have hs0n : H s0 = none := Same.non t4.sm hs0
      obtain ⟨_, _, _, _, _, f1, _⟩ := id t4.b1.lk
      obtain ⟨_, _, _, _, f2, _⟩ := id t4.b1.md
      obtain ⟨_, _, _, _, _, f3, _⟩ := id t4.b2.lk
      obtain ⟨_, _, _, _, f4, _⟩ := id t4.b2.md
      have nl := ne_of_none f1 hs0
      have nm := ne_of_none f2 hs0
      have nl' := ne_of_none f3 hs0
      have nm' := ne_of_none f4 hs0
      have t6 := (t4.same s5).gn g6 st5 nl nm nl' nm' hs0n
      have nq1 : q1 ≠ s0 := ne_of_none h1 hs0
      have nq2 : q2 ≠ s0 := ne_of_none h2 hs0
      have h16 : H6 q1 = some (.lst [.ref p, .ref p']) := g6.but _ _ (s5 _ _ h1) nq1
      have h26 : H6 q2 = some (.lst [.ref d, .ref d']) := g6.but _ _ (s5 _ _ h2) nq2
      have nn6 : ∀ b, H6 b = none → H b = none := fun b e => by
        have e5 := g6.none e
        exact Same.non t4.sm (Same.non s5 e5)
      have st6 := g6.st
      clear t4 h1 h2 s5 g6 f1 f2 f3 f4
      obtain ⟨dx, hv, ws, hp, _⟩ := id t6.b1.lk
      obtain ⟨dx', hv', ws', hp', _⟩ := id t6.b2.lk
      obtain ⟨hvd, wsd, hd, _⟩ := id t6.b1.md
      obtain ⟨hvd', wsd', hd', _⟩ := id t6.b2.md
      have q1p : q1 ≠ p := (ne_il hp h16).symm
      have q1p' : q1 ≠ p' := (ne_il hp' h16).symm
      have q2p : q2 ≠ p := (ne_il hp h26).symm
      have q2p' : q2 ≠ p' := (ne_il hp' h26).symm
      have q1d : q1 ≠ d := (ne_dl hd h16).symm
      have q1d' : q1 ≠ d' := (ne_dl hd' h16).symm
      have q2d : q2 ≠ d := (ne_dl hd h26).symm
      have q2d' : q2 ≠ d' := (ne_dl hd' h26).symm
      have ww : w = 0 ∨ w = 1 := by omega
      rcases ww with rfl | rfl
      · (try simp only [ne_0_1, ne_0_1b, ne_0_5, ne_0_5b, ne_0_6, ne_0_6b, ne_0_7, ne_0_7b, ne_1_0, ne_1_0b, ne_1_2, ne_1_2b, ne_1_3, ne_1_3b, ne_1_4, ne_1_4b, ne_1_5, ne_1_5b, ne_1_6, ne_1_6b, ne_1_7, ne_1_7b, ne_1_8, ne_1_8b, ne_2_1, ne_2_1b, ne_2_5, ne_2_5b, ne_2_6, ne_2_6b, ne_2_7, ne_2_7b, ne_3_1, ne_3_1b, ne_3_5, ne_3_5b, ne_3_6, ne_3_6b, ne_3_7, ne_3_7b, ne_4_1, ne_4_1b, ne_4_5, ne_4_5b, ne_4_6, ne_4_6b, ne_4_7, ne_4_7b, ne_5_0, ne_5_0b, ne_5_1, ne_5_1b, ne_5_2, ne_5_2b, ne_5_3, ne_5_3b, ne_5_4, ne_5_4b, ne_5_6, ne_5_6b, ne_5_7, ne_5_7b, ne_5_8, ne_5_8b, ne_6_0, ne_6_0b, ne_6_1, ne_6_1b, ne_6_2, ne_6_2b, ne_6_3, ne_6_3b, ne_6_4, ne_6_4b, ne_6_5, ne_6_5b, ne_6_7, ne_6_7b, ne_6_8, ne_6_8b, ne_7_0, ne_7_0b, ne_7_1, ne_7_1b, ne_7_2, ne_7_2b, ne_7_3, ne_7_3b, ne_7_4, ne_7_4b, ne_7_5, ne_7_5b, ne_7_6, ne_7_6b, ne_7_8, ne_7_8b, ne_8_1, ne_8_1b, ne_8_5, ne_8_5b, ne_8_6, ne_8_6b, ne_8_7, ne_8_7b, cxOf, Cx.nox, Cx.wish, tSeq, tAsg, tC, gName, tIfS, tTest, tOp, tUn, rU, rI0, rI, tVar, tNext, tBreak, tRet, tRetN, tDrop, tLst, tTup, tCons, tNil, tCB, tB, tOr, tAnd, tNot, tIf, tCall, tFor_eq, tLc_eq, iRng1, iRng2, iList, iTup, gTup, gTupH, gUnlH, gCons, gNil, gSub, rSetL, rIxL, rIxT, rIxLH, rIxTH, rSlTS, rCatS, rTupS, rIsiH, rLenS, V.ty.injEq, tyS_non, tyS_bl, tyS_int, tyS_str, tyS_ref, tyO_l, tyO_t, tyO_d, tyO_dt, kit_ll, kit_tt, kit_bb, kit_ii, kit_ib, kit_bi, kit_nt, kit_it, kit_st, kit_bt, kit_lt, kit_dt, kit_ni, kit_si, kit_ti, kit_li, kit_di, kit_nb, kit_ns, kit_is, kit_bs, kit_ss, kit_ts, kit_ls, kit_ds, kit_dd, lenS_ref, lenO_l, lenO_t,  rAppend, tM1, rIxS, tSl, tPart, tNoPart, tBM, tBM0, tDGetS, sDPutS, tTruS, truO_l, truO_t, truS_ref, truS_non, truS_bl, truS_int, tFld, sFld, sFldAug, rAdd, tMeth, tMake, tMakeK, List.take_succ_cons, List.take_zero, List.drop_succ_cons, List.drop_zero, List.take_nil, tIsN, tNotN, tAndV, tOrV, tNotV, putF, List.lookup, List.any_cons, List.any_nil, Sum.inr.injEq, HO.ins.injEq, HO.dK.injEq, eq_self, beq_self_eq_true, beq_iff_eq, decide_true, decide_false, Bool.or_true, Bool.true_or, Bool.or_false, Bool.false_or, tYes, rEq, rNe, _root_.L2.start, wipe, List.map_cons, List.map_nil, List.length_cons, List.length_nil, List.append_nil, Nat.reduceAdd, Nat.reduceSub, List.replicate_succ, List.replicate_zero, List.cons_append, List.nil_append, List.getElem?_cons_zero, List.getElem?_cons_succ, List.set_cons_zero, List.set_cons_succ, Option.some.injEq, V.int.injEq, V.ref.injEq, V.bl.injEq, V.str.injEq, List.cons.injEq, HO.lst.injEq, HO.tup.injEq, and_assoc, and_true, true_and, exists_eq_left, exists_eq_left', exists_and_left, exists_eq, reduceCtorEq, false_and, and_false, or_false, false_or, exists_false, decide_eq_true_eq, CPow, CDivW, Int.reducePow, Int.reduceLT, Int.reduceLE, Int.reduceNeg, Int.reduceToNat, Int.reduceAbs, Nat.reducePow, Nat.reduceLT, Nat.reduceLeDiff, sizeLine_eq, Int.reduceMul, Int.reduceAdd, Int.reduceSub, Bool.not_eq_true', decide_eq_false_iff_not, scal, Bool.not_true, Bool.not_false, Bool.true_eq_false, Bool.false_eq_true, ite_false, ite_true, if_true, if_false, ite_self, forall_const, atI0, atI1, atI2, atI3, ixN20, ixN21, upd_same, upd_upd, Int.zero_add, CMul, Int.reduceSub, Nat.le_refl, Nat.zero_le, or_true, true_or, exists_const, Int.sub_zero, h16, h26, sp_law_deed])
        refine ⟨l, m, S, t6.b1, st6, nl, nm, by omega, t6.w1, fun q H7 D => ?_⟩
        obtain ⟨⟨l1, m1, a', b', xs, ys, ds, S1, B7, hl1, hm1, hq7, ha7, hb7, ix, iy, hna, naq, nal, nam, hlen', hnd', hxl, hI⟩, hqn, fr⟩ := D
        have h17 := fr _ _ h16 nq1 q1p t6.q1l q1d t6.q1m
        have h27 := fr _ _ h26 nq2 q2p t6.q2l q2d t6.q2m
        have t7 := t6.step st6 nl' nm' hs0n nn6 B7 hl1 hm1 fr ⟨_, h16⟩ ⟨_, h26⟩ hI hnd'
        (try simp only [ne_0_1, ne_0_1b, ne_0_5, ne_0_5b, ne_0_6, ne_0_6b, ne_0_7, ne_0_7b, ne_1_0, ne_1_0b, ne_1_2, ne_1_2b, ne_1_3, ne_1_3b, ne_1_4, ne_1_4b, ne_1_5, ne_1_5b, ne_1_6, ne_1_6b, ne_1_7, ne_1_7b, ne_1_8, ne_1_8b, ne_2_1, ne_2_1b, ne_2_5, ne_2_5b, ne_2_6, ne_2_6b, ne_2_7, ne_2_7b, ne_3_1, ne_3_1b, ne_3_5, ne_3_5b, ne_3_6, ne_3_6b, ne_3_7, ne_3_7b, ne_4_1, ne_4_1b, ne_4_5, ne_4_5b, ne_4_6, ne_4_6b, ne_4_7, ne_4_7b, ne_5_0, ne_5_0b, ne_5_1, ne_5_1b, ne_5_2, ne_5_2b, ne_5_3, ne_5_3b, ne_5_4, ne_5_4b, ne_5_6, ne_5_6b, ne_5_7, ne_5_7b, ne_5_8, ne_5_8b, ne_6_0, ne_6_0b, ne_6_1, ne_6_1b, ne_6_2, ne_6_2b, ne_6_3, ne_6_3b, ne_6_4, ne_6_4b, ne_6_5, ne_6_5b, ne_6_7, ne_6_7b, ne_6_8, ne_6_8b, ne_7_0, ne_7_0b, ne_7_1, ne_7_1b, ne_7_2, ne_7_2b, ne_7_3, ne_7_3b, ne_7_4, ne_7_4b, ne_7_5, ne_7_5b, ne_7_6, ne_7_6b, ne_7_8, ne_7_8b, ne_8_1, ne_8_1b, ne_8_5, ne_8_5b, ne_8_6, ne_8_6b, ne_8_7, ne_8_7b, cxOf, Cx.nox, Cx.wish, tSeq, tAsg, tC, gName, tIfS, tTest, tOp, tUn, rU, rI0, rI, tVar, tNext, tBreak, tRet, tRetN, tDrop, tLst, tTup, tCons, tNil, tCB, tB, tOr, tAnd, tNot, tIf, tCall, tFor_eq, tLc_eq, iRng1, iRng2, iList, iTup, gTup, gTupH, gUnlH, gCons, gNil, gSub, rSetL, rIxL, rIxT, rIxLH, rIxTH, rSlTS, rCatS, rTupS, rIsiH, rLenS, V.ty.injEq, tyS_non, tyS_bl, tyS_int, tyS_str, tyS_ref, tyO_l, tyO_t, tyO_d, tyO_dt, kit_ll, kit_tt, kit_bb, kit_ii, kit_ib, kit_bi, kit_nt, kit_it, kit_st, kit_bt, kit_lt, kit_dt, kit_ni, kit_si, kit_ti, kit_li, kit_di, kit_nb, kit_ns, kit_is, kit_bs, kit_ss, kit_ts, kit_ls, kit_ds, kit_dd, lenS_ref, lenO_l, lenO_t,  rAppend, tM1, rIxS, tSl, tPart, tNoPart, tBM, tBM0, tDGetS, sDPutS, tTruS, truO_l, truO_t, truS_ref, truS_non, truS_bl, truS_int, tFld, sFld, sFldAug, rAdd, tMeth, tMake, tMakeK, List.take_succ_cons, List.take_zero, List.drop_succ_cons, List.drop_zero, List.take_nil, tIsN, tNotN, tAndV, tOrV, tNotV, putF, List.lookup, List.any_cons, List.any_nil, Sum.inr.injEq, HO.ins.injEq, HO.dK.injEq, eq_self, beq_self_eq_true, beq_iff_eq, decide_true, decide_false, Bool.or_true, Bool.true_or, Bool.or_false, Bool.false_or, tYes, rEq, rNe, _root_.L2.start, wipe, List.map_cons, List.map_nil, List.length_cons, List.length_nil, List.append_nil, Nat.reduceAdd, Nat.reduceSub, List.replicate_succ, List.replicate_zero, List.cons_append, List.nil_append, List.getElem?_cons_zero, List.getElem?_cons_succ, List.set_cons_zero, List.set_cons_succ, Option.some.injEq, V.int.injEq, V.ref.injEq, V.bl.injEq, V.str.injEq, List.cons.injEq, HO.lst.injEq, HO.tup.injEq, and_assoc, and_true, true_and, exists_eq_left, exists_eq_left', exists_and_left, exists_eq, reduceCtorEq, false_and, and_false, or_false, false_or, exists_false, decide_eq_true_eq, CPow, CDivW, Int.reducePow, Int.reduceLT, Int.reduceLE, Int.reduceNeg, Int.reduceToNat, Int.reduceAbs, Nat.reducePow, Nat.reduceLT, Nat.reduceLeDiff, sizeLine_eq, Int.reduceMul, Int.reduceAdd, Int.reduceSub, Bool.not_eq_true', decide_eq_false_iff_not, scal, Bool.not_true, Bool.not_false, Bool.true_eq_false, Bool.false_eq_true, ite_false, ite_true, if_true, if_false, ite_self, forall_const, atI0, atI1, atI2, atI3, ixN20, ixN21, upd_same, upd_upd, Int.zero_add, CMul, Int.reduceSub, Nat.le_refl, Nat.zero_le, or_true, true_or, exists_const, Int.sub_zero, hq7, ha7, h17, h27, sp_law_lock_is])
        refine ⟨_, _, .lst (SqL.of ha7) (ImAll.dp _ _ ix), .lst (SqL.of hb7) (ImAll.dp _ _ iy), wDs_shaped _, wDs_shaped _, ?_⟩
        rw [SeqAt.eqv_refl _ (SeqAt.canLay_of_shaped (wDs_shaped ds))]
        (try simp only [ne_0_1, ne_0_1b, ne_0_5, ne_0_5b, ne_0_6, ne_0_6b, ne_0_7, ne_0_7b, ne_1_0, ne_1_0b, ne_1_2, ne_1_2b, ne_1_3, ne_1_3b, ne_1_4, ne_1_4b, ne_1_5, ne_1_5b, ne_1_6, ne_1_6b, ne_1_7, ne_1_7b, ne_1_8, ne_1_8b, ne_2_1, ne_2_1b, ne_2_5, ne_2_5b, ne_2_6, ne_2_6b, ne_2_7, ne_2_7b, ne_3_1, ne_3_1b, ne_3_5, ne_3_5b, ne_3_6, ne_3_6b, ne_3_7, ne_3_7b, ne_4_1, ne_4_1b, ne_4_5, ne_4_5b, ne_4_6, ne_4_6b, ne_4_7, ne_4_7b, ne_5_0, ne_5_0b, ne_5_1, ne_5_1b, ne_5_2, ne_5_2b, ne_5_3, ne_5_3b, ne_5_4, ne_5_4b, ne_5_6, ne_5_6b, ne_5_7, ne_5_7b, ne_5_8, ne_5_8b, ne_6_0, ne_6_0b, ne_6_1, ne_6_1b, ne_6_2, ne_6_2b, ne_6_3, ne_6_3b, ne_6_4, ne_6_4b, ne_6_5, ne_6_5b, ne_6_7, ne_6_7b, ne_6_8, ne_6_8b, ne_7_0, ne_7_0b, ne_7_1, ne_7_1b, ne_7_2, ne_7_2b, ne_7_3, ne_7_3b, ne_7_4, ne_7_4b, ne_7_5, ne_7_5b, ne_7_6, ne_7_6b, ne_7_8, ne_7_8b, ne_8_1, ne_8_1b, ne_8_5, ne_8_5b, ne_8_6, ne_8_6b, ne_8_7, ne_8_7b, cxOf, Cx.nox, Cx.wish, tSeq, tAsg, tC, gName, tIfS, tTest, tOp, tUn, rU, rI0, rI, tVar, tNext, tBreak, tRet, tRetN, tDrop, tLst, tTup, tCons, tNil, tCB, tB, tOr, tAnd, tNot, tIf, tCall, tFor_eq, tLc_eq, iRng1, iRng2, iList, iTup, gTup, gTupH, gUnlH, gCons, gNil, gSub, rSetL, rIxL, rIxT, rIxLH, rIxTH, rSlTS, rCatS, rTupS, rIsiH, rLenS, V.ty.injEq, tyS_non, tyS_bl, tyS_int, tyS_str, tyS_ref, tyO_l, tyO_t, tyO_d, tyO_dt, kit_ll, kit_tt, kit_bb, kit_ii, kit_ib, kit_bi, kit_nt, kit_it, kit_st, kit_bt, kit_lt, kit_dt, kit_ni, kit_si, kit_ti, kit_li, kit_di, kit_nb, kit_ns, kit_is, kit_bs, kit_ss, kit_ts, kit_ls, kit_ds, kit_dd, lenS_ref, lenO_l, lenO_t,  rAppend, tM1, rIxS, tSl, tPart, tNoPart, tBM, tBM0, tDGetS, sDPutS, tTruS, truO_l, truO_t, truS_ref, truS_non, truS_bl, truS_int, tFld, sFld, sFldAug, rAdd, tMeth, tMake, tMakeK, List.take_succ_cons, List.take_zero, List.drop_succ_cons, List.drop_zero, List.take_nil, tIsN, tNotN, tAndV, tOrV, tNotV, putF, List.lookup, List.any_cons, List.any_nil, Sum.inr.injEq, HO.ins.injEq, HO.dK.injEq, eq_self, beq_self_eq_true, beq_iff_eq, decide_true, decide_false, Bool.or_true, Bool.true_or, Bool.or_false, Bool.false_or, tYes, rEq, rNe, _root_.L2.start, wipe, List.map_cons, List.map_nil, List.length_cons, List.length_nil, List.append_nil, Nat.reduceAdd, Nat.reduceSub, List.replicate_succ, List.replicate_zero, List.cons_append, List.nil_append, List.getElem?_cons_zero, List.getElem?_cons_succ, List.set_cons_zero, List.set_cons_succ, Option.some.injEq, V.int.injEq, V.ref.injEq, V.bl.injEq, V.str.injEq, List.cons.injEq, HO.lst.injEq, HO.tup.injEq, and_assoc, and_true, true_and, exists_eq_left, exists_eq_left', exists_and_left, exists_eq, reduceCtorEq, false_and, and_false, or_false, false_or, exists_false, decide_eq_true_eq, CPow, CDivW, Int.reducePow, Int.reduceLT, Int.reduceLE, Int.reduceNeg, Int.reduceToNat, Int.reduceAbs, Nat.reducePow, Nat.reduceLT, Nat.reduceLeDiff, sizeLine_eq, Int.reduceMul, Int.reduceAdd, Int.reduceSub, Bool.not_eq_true', decide_eq_false_iff_not, scal, Bool.not_true, Bool.not_false, Bool.true_eq_false, Bool.false_eq_true, ite_false, ite_true, if_true, if_false, ite_self, forall_const, atI0, atI1, atI2, atI3, ixN20, ixN21, upd_same, upd_upd, Int.zero_add, CMul, Int.reduceSub, Nat.le_refl, Nat.zero_le, or_true, true_or, exists_const, Int.sub_zero, h17, h27])
        refine ⟨_, _, _, t7.b1.lk, t7.b1.md, by omega, fun H8 s8 => ?_⟩
        (try simp only [ne_0_1, ne_0_1b, ne_0_5, ne_0_5b, ne_0_6, ne_0_6b, ne_0_7, ne_0_7b, ne_1_0, ne_1_0b, ne_1_2, ne_1_2b, ne_1_3, ne_1_3b, ne_1_4, ne_1_4b, ne_1_5, ne_1_5b, ne_1_6, ne_1_6b, ne_1_7, ne_1_7b, ne_1_8, ne_1_8b, ne_2_1, ne_2_1b, ne_2_5, ne_2_5b, ne_2_6, ne_2_6b, ne_2_7, ne_2_7b, ne_3_1, ne_3_1b, ne_3_5, ne_3_5b, ne_3_6, ne_3_6b, ne_3_7, ne_3_7b, ne_4_1, ne_4_1b, ne_4_5, ne_4_5b, ne_4_6, ne_4_6b, ne_4_7, ne_4_7b, ne_5_0, ne_5_0b, ne_5_1, ne_5_1b, ne_5_2, ne_5_2b, ne_5_3, ne_5_3b, ne_5_4, ne_5_4b, ne_5_6, ne_5_6b, ne_5_7, ne_5_7b, ne_5_8, ne_5_8b, ne_6_0, ne_6_0b, ne_6_1, ne_6_1b, ne_6_2, ne_6_2b, ne_6_3, ne_6_3b, ne_6_4, ne_6_4b, ne_6_5, ne_6_5b, ne_6_7, ne_6_7b, ne_6_8, ne_6_8b, ne_7_0, ne_7_0b, ne_7_1, ne_7_1b, ne_7_2, ne_7_2b, ne_7_3, ne_7_3b, ne_7_4, ne_7_4b, ne_7_5, ne_7_5b, ne_7_6, ne_7_6b, ne_7_8, ne_7_8b, ne_8_1, ne_8_1b, ne_8_5, ne_8_5b, ne_8_6, ne_8_6b, ne_8_7, ne_8_7b, cxOf, Cx.nox, Cx.wish, tSeq, tAsg, tC, gName, tIfS, tTest, tOp, tUn, rU, rI0, rI, tVar, tNext, tBreak, tRet, tRetN, tDrop, tLst, tTup, tCons, tNil, tCB, tB, tOr, tAnd, tNot, tIf, tCall, tFor_eq, tLc_eq, iRng1, iRng2, iList, iTup, gTup, gTupH, gUnlH, gCons, gNil, gSub, rSetL, rIxL, rIxT, rIxLH, rIxTH, rSlTS, rCatS, rTupS, rIsiH, rLenS, V.ty.injEq, tyS_non, tyS_bl, tyS_int, tyS_str, tyS_ref, tyO_l, tyO_t, tyO_d, tyO_dt, kit_ll, kit_tt, kit_bb, kit_ii, kit_ib, kit_bi, kit_nt, kit_it, kit_st, kit_bt, kit_lt, kit_dt, kit_ni, kit_si, kit_ti, kit_li, kit_di, kit_nb, kit_ns, kit_is, kit_bs, kit_ss, kit_ts, kit_ls, kit_ds, kit_dd, lenS_ref, lenO_l, lenO_t,  rAppend, tM1, rIxS, tSl, tPart, tNoPart, tBM, tBM0, tDGetS, sDPutS, tTruS, truO_l, truO_t, truS_ref, truS_non, truS_bl, truS_int, tFld, sFld, sFldAug, rAdd, tMeth, tMake, tMakeK, List.take_succ_cons, List.take_zero, List.drop_succ_cons, List.drop_zero, List.take_nil, tIsN, tNotN, tAndV, tOrV, tNotV, putF, List.lookup, List.any_cons, List.any_nil, Sum.inr.injEq, HO.ins.injEq, HO.dK.injEq, eq_self, beq_self_eq_true, beq_iff_eq, decide_true, decide_false, Bool.or_true, Bool.true_or, Bool.or_false, Bool.false_or, tYes, rEq, rNe, _root_.L2.start, wipe, List.map_cons, List.map_nil, List.length_cons, List.length_nil, List.append_nil, Nat.reduceAdd, Nat.reduceSub, List.replicate_succ, List.replicate_zero, List.cons_append, List.nil_append, List.getElem?_cons_zero, List.getElem?_cons_succ, List.set_cons_zero, List.set_cons_succ, Option.some.injEq, V.int.injEq, V.ref.injEq, V.bl.injEq, V.str.injEq, List.cons.injEq, HO.lst.injEq, HO.tup.injEq, and_assoc, and_true, true_and, exists_eq_left, exists_eq_left', exists_and_left, exists_eq, reduceCtorEq, false_and, and_false, or_false, false_or, exists_false, decide_eq_true_eq, CPow, CDivW, Int.reducePow, Int.reduceLT, Int.reduceLE, Int.reduceNeg, Int.reduceToNat, Int.reduceAbs, Nat.reducePow, Nat.reduceLT, Nat.reduceLeDiff, sizeLine_eq, Int.reduceMul, Int.reduceAdd, Int.reduceSub, Bool.not_eq_true', decide_eq_false_iff_not, scal, Bool.not_true, Bool.not_false, Bool.true_eq_false, Bool.false_eq_true, ite_false, ite_true, if_true, if_false, ite_self, forall_const, atI0, atI1, atI2, atI3, ixN20, ixN21, upd_same, upd_upd, Int.zero_add, CMul, Int.reduceSub, Nat.le_refl, Nat.zero_le, or_true, true_or, exists_const, Int.sub_zero, s8 _ _ h17, s8 _ _ h27])
        refine ⟨_, _, _, (t7.same s8).b2.lk, (t7.same s8).b2.md, by omega, fun H9 s9 => ?_⟩
        try (try simp only [ne_0_1, ne_0_1b, ne_0_5, ne_0_5b, ne_0_6, ne_0_6b, ne_0_7, ne_0_7b, ne_1_0, ne_1_0b, ne_1_2, ne_1_2b, ne_1_3, ne_1_3b, ne_1_4, ne_1_4b, ne_1_5, ne_1_5b, ne_1_6, ne_1_6b, ne_1_7, ne_1_7b, ne_1_8, ne_1_8b, ne_2_1, ne_2_1b, ne_2_5, ne_2_5b, ne_2_6, ne_2_6b, ne_2_7, ne_2_7b, ne_3_1, ne_3_1b, ne_3_5, ne_3_5b, ne_3_6, ne_3_6b, ne_3_7, ne_3_7b, ne_4_1, ne_4_1b, ne_4_5, ne_4_5b, ne_4_6, ne_4_6b, ne_4_7, ne_4_7b, ne_5_0, ne_5_0b, ne_5_1, ne_5_1b, ne_5_2, ne_5_2b, ne_5_3, ne_5_3b, ne_5_4, ne_5_4b, ne_5_6, ne_5_6b, ne_5_7, ne_5_7b, ne_5_8, ne_5_8b, ne_6_0, ne_6_0b, ne_6_1, ne_6_1b, ne_6_2, ne_6_2b, ne_6_3, ne_6_3b, ne_6_4, ne_6_4b, ne_6_5, ne_6_5b, ne_6_7, ne_6_7b, ne_6_8, ne_6_8b, ne_7_0, ne_7_0b, ne_7_1, ne_7_1b, ne_7_2, ne_7_2b, ne_7_3, ne_7_3b, ne_7_4, ne_7_4b, ne_7_5, ne_7_5b, ne_7_6, ne_7_6b, ne_7_8, ne_7_8b, ne_8_1, ne_8_1b, ne_8_5, ne_8_5b, ne_8_6, ne_8_6b, ne_8_7, ne_8_7b, cxOf, Cx.nox, Cx.wish, tSeq, tAsg, tC, gName, tIfS, tTest, tOp, tUn, rU, rI0, rI, tVar, tNext, tBreak, tRet, tRetN, tDrop, tLst, tTup, tCons, tNil, tCB, tB, tOr, tAnd, tNot, tIf, tCall, tFor_eq, tLc_eq, iRng1, iRng2, iList, iTup, gTup, gTupH, gUnlH, gCons, gNil, gSub, rSetL, rIxL, rIxT, rIxLH, rIxTH, rSlTS, rCatS, rTupS, rIsiH, rLenS, V.ty.injEq, tyS_non, tyS_bl, tyS_int, tyS_str, tyS_ref, tyO_l, tyO_t, tyO_d, tyO_dt, kit_ll, kit_tt, kit_bb, kit_ii, kit_ib, kit_bi, kit_nt, kit_it, kit_st, kit_bt, kit_lt, kit_dt, kit_ni, kit_si, kit_ti, kit_li, kit_di, kit_nb, kit_ns, kit_is, kit_bs, kit_ss, kit_ts, kit_ls, kit_ds, kit_dd, lenS_ref, lenO_l, lenO_t,  rAppend, tM1, rIxS, tSl, tPart, tNoPart, tBM, tBM0, tDGetS, sDPutS, tTruS, truO_l, truO_t, truS_ref, truS_non, truS_bl, truS_int, tFld, sFld, sFldAug, rAdd, tMeth, tMake, tMakeK, List.take_succ_cons, List.take_zero, List.drop_succ_cons, List.drop_zero, List.take_nil, tIsN, tNotN, tAndV, tOrV, tNotV, putF, List.lookup, List.any_cons, List.any_nil, Sum.inr.injEq, HO.ins.injEq, HO.dK.injEq, eq_self, beq_self_eq_true, beq_iff_eq, decide_true, decide_false, Bool.or_true, Bool.true_or, Bool.or_false, Bool.false_or, tYes, rEq, rNe, _root_.L2.start, wipe, List.map_cons, List.map_nil, List.length_cons, List.length_nil, List.append_nil, Nat.reduceAdd, Nat.reduceSub, List.replicate_succ, List.replicate_zero, List.cons_append, List.nil_append, List.getElem?_cons_zero, List.getElem?_cons_succ, List.set_cons_zero, List.set_cons_succ, Option.some.injEq, V.int.injEq, V.ref.injEq, V.bl.injEq, V.str.injEq, List.cons.injEq, HO.lst.injEq, HO.tup.injEq, and_assoc, and_true, true_and, exists_eq_left, exists_eq_left', exists_and_left, exists_eq, reduceCtorEq, false_and, and_false, or_false, false_or, exists_false, decide_eq_true_eq, CPow, CDivW, Int.reducePow, Int.reduceLT, Int.reduceLE, Int.reduceNeg, Int.reduceToNat, Int.reduceAbs, Nat.reducePow, Nat.reduceLT, Nat.reduceLeDiff, sizeLine_eq, Int.reduceMul, Int.reduceAdd, Int.reduceSub, Bool.not_eq_true', decide_eq_false_iff_not, scal, Bool.not_true, Bool.not_false, Bool.true_eq_false, Bool.false_eq_true, ite_false, ite_true, if_true, if_false, ite_self, forall_const, atI0, atI1, atI2, atI3, ixN20, ixN21, upd_same, upd_upd, Int.zero_add, CMul, Int.reduceSub, Nat.le_refl, Nat.zero_le, or_true, true_or, exists_const, Int.sub_zero])
        exact ⟨_, _, _, _, _, _, (t7.same s8).same s9, s9 _ _ (s8 _ _ h17), s9 _ _ (s8 _ _ h27), by omega, by omega⟩
      · (try simp only [ne_0_1, ne_0_1b, ne_0_5, ne_0_5b, ne_0_6, ne_0_6b, ne_0_7, ne_0_7b, ne_1_0, ne_1_0b, ne_1_2, ne_1_2b, ne_1_3, ne_1_3b, ne_1_4, ne_1_4b, ne_1_5, ne_1_5b, ne_1_6, ne_1_6b, ne_1_7, ne_1_7b, ne_1_8, ne_1_8b, ne_2_1, ne_2_1b, ne_2_5, ne_2_5b, ne_2_6, ne_2_6b, ne_2_7, ne_2_7b, ne_3_1, ne_3_1b, ne_3_5, ne_3_5b, ne_3_6, ne_3_6b, ne_3_7, ne_3_7b, ne_4_1, ne_4_1b, ne_4_5, ne_4_5b, ne_4_6, ne_4_6b, ne_4_7, ne_4_7b, ne_5_0, ne_5_0b, ne_5_1, ne_5_1b, ne_5_2, ne_5_2b, ne_5_3, ne_5_3b, ne_5_4, ne_5_4b, ne_5_6, ne_5_6b, ne_5_7, ne_5_7b, ne_5_8, ne_5_8b, ne_6_0, ne_6_0b, ne_6_1, ne_6_1b, ne_6_2, ne_6_2b, ne_6_3, ne_6_3b, ne_6_4, ne_6_4b, ne_6_5, ne_6_5b, ne_6_7, ne_6_7b, ne_6_8, ne_6_8b, ne_7_0, ne_7_0b, ne_7_1, ne_7_1b, ne_7_2, ne_7_2b, ne_7_3, ne_7_3b, ne_7_4, ne_7_4b, ne_7_5, ne_7_5b, ne_7_6, ne_7_6b, ne_7_8, ne_7_8b, ne_8_1, ne_8_1b, ne_8_5, ne_8_5b, ne_8_6, ne_8_6b, ne_8_7, ne_8_7b, cxOf, Cx.nox, Cx.wish, tSeq, tAsg, tC, gName, tIfS, tTest, tOp, tUn, rU, rI0, rI, tVar, tNext, tBreak, tRet, tRetN, tDrop, tLst, tTup, tCons, tNil, tCB, tB, tOr, tAnd, tNot, tIf, tCall, tFor_eq, tLc_eq, iRng1, iRng2, iList, iTup, gTup, gTupH, gUnlH, gCons, gNil, gSub, rSetL, rIxL, rIxT, rIxLH, rIxTH, rSlTS, rCatS, rTupS, rIsiH, rLenS, V.ty.injEq, tyS_non, tyS_bl, tyS_int, tyS_str, tyS_ref, tyO_l, tyO_t, tyO_d, tyO_dt, kit_ll, kit_tt, kit_bb, kit_ii, kit_ib, kit_bi, kit_nt, kit_it, kit_st, kit_bt, kit_lt, kit_dt, kit_ni, kit_si, kit_ti, kit_li, kit_di, kit_nb, kit_ns, kit_is, kit_bs, kit_ss, kit_ts, kit_ls, kit_ds, kit_dd, lenS_ref, lenO_l, lenO_t,  rAppend, tM1, rIxS, tSl, tPart, tNoPart, tBM, tBM0, tDGetS, sDPutS, tTruS, truO_l, truO_t, truS_ref, truS_non, truS_bl, truS_int, tFld, sFld, sFldAug, rAdd, tMeth, tMake, tMakeK, List.take_succ_cons, List.take_zero, List.drop_succ_cons, List.drop_zero, List.take_nil, tIsN, tNotN, tAndV, tOrV, tNotV, putF, List.lookup, List.any_cons, List.any_nil, Sum.inr.injEq, HO.ins.injEq, HO.dK.injEq, eq_self, beq_self_eq_true, beq_iff_eq, decide_true, decide_false, Bool.or_true, Bool.true_or, Bool.or_false, Bool.false_or, tYes, rEq, rNe, _root_.L2.start, wipe, List.map_cons, List.map_nil, List.length_cons, List.length_nil, List.append_nil, Nat.reduceAdd, Nat.reduceSub, List.replicate_succ, List.replicate_zero, List.cons_append, List.nil_append, List.getElem?_cons_zero, List.getElem?_cons_succ, List.set_cons_zero, List.set_cons_succ, Option.some.injEq, V.int.injEq, V.ref.injEq, V.bl.injEq, V.str.injEq, List.cons.injEq, HO.lst.injEq, HO.tup.injEq, and_assoc, and_true, true_and, exists_eq_left, exists_eq_left', exists_and_left, exists_eq, reduceCtorEq, false_and, and_false, or_false, false_or, exists_false, decide_eq_true_eq, CPow, CDivW, Int.reducePow, Int.reduceLT, Int.reduceLE, Int.reduceNeg, Int.reduceToNat, Int.reduceAbs, Nat.reducePow, Nat.reduceLT, Nat.reduceLeDiff, sizeLine_eq, Int.reduceMul, Int.reduceAdd, Int.reduceSub, Bool.not_eq_true', decide_eq_false_iff_not, scal, Bool.not_true, Bool.not_false, Bool.true_eq_false, Bool.false_eq_true, ite_false, ite_true, if_true, if_false, ite_self, forall_const, atI0, atI1, atI2, atI3, ixN20, ixN21, upd_same, upd_upd, Int.zero_add, CMul, Int.reduceSub, Nat.le_refl, Nat.zero_le, or_true, true_or, exists_const, Int.sub_zero, h16, h26, sp_law_deed])
        refine ⟨l', m', S', t6.b2, st6, nl', nm', by omega, t6.w2, fun q H7 D => ?_⟩
        obtain ⟨⟨l1, m1, a', b', xs, ys, ds, S1, B7, hl1, hm1, hq7, ha7, hb7, ix, iy, hna, naq, nal, nam, hlen', hnd', hxl, hI⟩, hqn, fr⟩ := D
        have h17 := fr _ _ h16 nq1 q1p' t6.q1l' q1d' t6.q1m'
        have h27 := fr _ _ h26 nq2 q2p' t6.q2l' q2d' t6.q2m'
        have t7 := (t6.swap.step st6 nl nm hs0n nn6 B7 hl1 hm1 fr ⟨_, h16⟩ ⟨_, h26⟩ hI hnd').swap
        (try simp only [ne_0_1, ne_0_1b, ne_0_5, ne_0_5b, ne_0_6, ne_0_6b, ne_0_7, ne_0_7b, ne_1_0, ne_1_0b, ne_1_2, ne_1_2b, ne_1_3, ne_1_3b, ne_1_4, ne_1_4b, ne_1_5, ne_1_5b, ne_1_6, ne_1_6b, ne_1_7, ne_1_7b, ne_1_8, ne_1_8b, ne_2_1, ne_2_1b, ne_2_5, ne_2_5b, ne_2_6, ne_2_6b, ne_2_7, ne_2_7b, ne_3_1, ne_3_1b, ne_3_5, ne_3_5b, ne_3_6, ne_3_6b, ne_3_7, ne_3_7b, ne_4_1, ne_4_1b, ne_4_5, ne_4_5b, ne_4_6, ne_4_6b, ne_4_7, ne_4_7b, ne_5_0, ne_5_0b, ne_5_1, ne_5_1b, ne_5_2, ne_5_2b, ne_5_3, ne_5_3b, ne_5_4, ne_5_4b, ne_5_6, ne_5_6b, ne_5_7, ne_5_7b, ne_5_8, ne_5_8b, ne_6_0, ne_6_0b, ne_6_1, ne_6_1b, ne_6_2, ne_6_2b, ne_6_3, ne_6_3b, ne_6_4, ne_6_4b, ne_6_5, ne_6_5b, ne_6_7, ne_6_7b, ne_6_8, ne_6_8b, ne_7_0, ne_7_0b, ne_7_1, ne_7_1b, ne_7_2, ne_7_2b, ne_7_3, ne_7_3b, ne_7_4, ne_7_4b, ne_7_5, ne_7_5b, ne_7_6, ne_7_6b, ne_7_8, ne_7_8b, ne_8_1, ne_8_1b, ne_8_5, ne_8_5b, ne_8_6, ne_8_6b, ne_8_7, ne_8_7b, cxOf, Cx.nox, Cx.wish, tSeq, tAsg, tC, gName, tIfS, tTest, tOp, tUn, rU, rI0, rI, tVar, tNext, tBreak, tRet, tRetN, tDrop, tLst, tTup, tCons, tNil, tCB, tB, tOr, tAnd, tNot, tIf, tCall, tFor_eq, tLc_eq, iRng1, iRng2, iList, iTup, gTup, gTupH, gUnlH, gCons, gNil, gSub, rSetL, rIxL, rIxT, rIxLH, rIxTH, rSlTS, rCatS, rTupS, rIsiH, rLenS, V.ty.injEq, tyS_non, tyS_bl, tyS_int, tyS_str, tyS_ref, tyO_l, tyO_t, tyO_d, tyO_dt, kit_ll, kit_tt, kit_bb, kit_ii, kit_ib, kit_bi, kit_nt, kit_it, kit_st, kit_bt, kit_lt, kit_dt, kit_ni, kit_si, kit_ti, kit_li, kit_di, kit_nb, kit_ns, kit_is, kit_bs, kit_ss, kit_ts, kit_ls, kit_ds, kit_dd, lenS_ref, lenO_l, lenO_t,  rAppend, tM1, rIxS, tSl, tPart, tNoPart, tBM, tBM0, tDGetS, sDPutS, tTruS, truO_l, truO_t, truS_ref, truS_non, truS_bl, truS_int, tFld, sFld, sFldAug, rAdd, tMeth, tMake, tMakeK, List.take_succ_cons, List.take_zero, List.drop_succ_cons, List.drop_zero, List.take_nil, tIsN, tNotN, tAndV, tOrV, tNotV, putF, List.lookup, List.any_cons, List.any_nil, Sum.inr.injEq, HO.ins.injEq, HO.dK.injEq, eq_self, beq_self_eq_true, beq_iff_eq, decide_true, decide_false, Bool.or_true, Bool.true_or, Bool.or_false, Bool.false_or, tYes, rEq, rNe, _root_.L2.start, wipe, List.map_cons, List.map_nil, List.length_cons, List.length_nil, List.append_nil, Nat.reduceAdd, Nat.reduceSub, List.replicate_succ, List.replicate_zero, List.cons_append, List.nil_append, List.getElem?_cons_zero, List.getElem?_cons_succ, List.set_cons_zero, List.set_cons_succ, Option.some.injEq, V.int.injEq, V.ref.injEq, V.bl.injEq, V.str.injEq, List.cons.injEq, HO.lst.injEq, HO.tup.injEq, and_assoc, and_true, true_and, exists_eq_left, exists_eq_left', exists_and_left, exists_eq, reduceCtorEq, false_and, and_false, or_false, false_or, exists_false, decide_eq_true_eq, CPow, CDivW, Int.reducePow, Int.reduceLT, Int.reduceLE, Int.reduceNeg, Int.reduceToNat, Int.reduceAbs, Nat.reducePow, Nat.reduceLT, Nat.reduceLeDiff, sizeLine_eq, Int.reduceMul, Int.reduceAdd, Int.reduceSub, Bool.not_eq_true', decide_eq_false_iff_not, scal, Bool.not_true, Bool.not_false, Bool.true_eq_false, Bool.false_eq_true, ite_false, ite_true, if_true, if_false, ite_self, forall_const, atI0, atI1, atI2, atI3, ixN20, ixN21, upd_same, upd_upd, Int.zero_add, CMul, Int.reduceSub, Nat.le_refl, Nat.zero_le, or_true, true_or, exists_const, Int.sub_zero, hq7, ha7, h17, h27, sp_law_lock_is])
        refine ⟨_, _, .lst (SqL.of ha7) (ImAll.dp _ _ ix), .lst (SqL.of hb7) (ImAll.dp _ _ iy), wDs_shaped _, wDs_shaped _, ?_⟩
        rw [SeqAt.eqv_refl _ (SeqAt.canLay_of_shaped (wDs_shaped ds))]
        (try simp only [ne_0_1, ne_0_1b, ne_0_5, ne_0_5b, ne_0_6, ne_0_6b, ne_0_7, ne_0_7b, ne_1_0, ne_1_0b, ne_1_2, ne_1_2b, ne_1_3, ne_1_3b, ne_1_4, ne_1_4b, ne_1_5, ne_1_5b, ne_1_6, ne_1_6b, ne_1_7, ne_1_7b, ne_1_8, ne_1_8b, ne_2_1, ne_2_1b, ne_2_5, ne_2_5b, ne_2_6, ne_2_6b, ne_2_7, ne_2_7b, ne_3_1, ne_3_1b, ne_3_5, ne_3_5b, ne_3_6, ne_3_6b, ne_3_7, ne_3_7b, ne_4_1, ne_4_1b, ne_4_5, ne_4_5b, ne_4_6, ne_4_6b, ne_4_7, ne_4_7b, ne_5_0, ne_5_0b, ne_5_1, ne_5_1b, ne_5_2, ne_5_2b, ne_5_3, ne_5_3b, ne_5_4, ne_5_4b, ne_5_6, ne_5_6b, ne_5_7, ne_5_7b, ne_5_8, ne_5_8b, ne_6_0, ne_6_0b, ne_6_1, ne_6_1b, ne_6_2, ne_6_2b, ne_6_3, ne_6_3b, ne_6_4, ne_6_4b, ne_6_5, ne_6_5b, ne_6_7, ne_6_7b, ne_6_8, ne_6_8b, ne_7_0, ne_7_0b, ne_7_1, ne_7_1b, ne_7_2, ne_7_2b, ne_7_3, ne_7_3b, ne_7_4, ne_7_4b, ne_7_5, ne_7_5b, ne_7_6, ne_7_6b, ne_7_8, ne_7_8b, ne_8_1, ne_8_1b, ne_8_5, ne_8_5b, ne_8_6, ne_8_6b, ne_8_7, ne_8_7b, cxOf, Cx.nox, Cx.wish, tSeq, tAsg, tC, gName, tIfS, tTest, tOp, tUn, rU, rI0, rI, tVar, tNext, tBreak, tRet, tRetN, tDrop, tLst, tTup, tCons, tNil, tCB, tB, tOr, tAnd, tNot, tIf, tCall, tFor_eq, tLc_eq, iRng1, iRng2, iList, iTup, gTup, gTupH, gUnlH, gCons, gNil, gSub, rSetL, rIxL, rIxT, rIxLH, rIxTH, rSlTS, rCatS, rTupS, rIsiH, rLenS, V.ty.injEq, tyS_non, tyS_bl, tyS_int, tyS_str, tyS_ref, tyO_l, tyO_t, tyO_d, tyO_dt, kit_ll, kit_tt, kit_bb, kit_ii, kit_ib, kit_bi, kit_nt, kit_it, kit_st, kit_bt, kit_lt, kit_dt, kit_ni, kit_si, kit_ti, kit_li, kit_di, kit_nb, kit_ns, kit_is, kit_bs, kit_ss, kit_ts, kit_ls, kit_ds, kit_dd, lenS_ref, lenO_l, lenO_t,  rAppend, tM1, rIxS, tSl, tPart, tNoPart, tBM, tBM0, tDGetS, sDPutS, tTruS, truO_l, truO_t, truS_ref, truS_non, truS_bl, truS_int, tFld, sFld, sFldAug, rAdd, tMeth, tMake, tMakeK, List.take_succ_cons, List.take_zero, List.drop_succ_cons, List.drop_zero, List.take_nil, tIsN, tNotN, tAndV, tOrV, tNotV, putF, List.lookup, List.any_cons, List.any_nil, Sum.inr.injEq, HO.ins.injEq, HO.dK.injEq, eq_self, beq_self_eq_true, beq_iff_eq, decide_true, decide_false, Bool.or_true, Bool.true_or, Bool.or_false, Bool.false_or, tYes, rEq, rNe, _root_.L2.start, wipe, List.map_cons, List.map_nil, List.length_cons, List.length_nil, List.append_nil, Nat.reduceAdd, Nat.reduceSub, List.replicate_succ, List.replicate_zero, List.cons_append, List.nil_append, List.getElem?_cons_zero, List.getElem?_cons_succ, List.set_cons_zero, List.set_cons_succ, Option.some.injEq, V.int.injEq, V.ref.injEq, V.bl.injEq, V.str.injEq, List.cons.injEq, HO.lst.injEq, HO.tup.injEq, and_assoc, and_true, true_and, exists_eq_left, exists_eq_left', exists_and_left, exists_eq, reduceCtorEq, false_and, and_false, or_false, false_or, exists_false, decide_eq_true_eq, CPow, CDivW, Int.reducePow, Int.reduceLT, Int.reduceLE, Int.reduceNeg, Int.reduceToNat, Int.reduceAbs, Nat.reducePow, Nat.reduceLT, Nat.reduceLeDiff, sizeLine_eq, Int.reduceMul, Int.reduceAdd, Int.reduceSub, Bool.not_eq_true', decide_eq_false_iff_not, scal, Bool.not_true, Bool.not_false, Bool.true_eq_false, Bool.false_eq_true, ite_false, ite_true, if_true, if_false, ite_self, forall_const, atI0, atI1, atI2, atI3, ixN20, ixN21, upd_same, upd_upd, Int.zero_add, CMul, Int.reduceSub, Nat.le_refl, Nat.zero_le, or_true, true_or, exists_const, Int.sub_zero, h17, h27])
        refine ⟨_, _, _, t7.b1.lk, t7.b1.md, by omega, fun H8 s8 => ?_⟩
        (try simp only [ne_0_1, ne_0_1b, ne_0_5, ne_0_5b, ne_0_6, ne_0_6b, ne_0_7, ne_0_7b, ne_1_0, ne_1_0b, ne_1_2, ne_1_2b, ne_1_3, ne_1_3b, ne_1_4, ne_1_4b, ne_1_5, ne_1_5b, ne_1_6, ne_1_6b, ne_1_7, ne_1_7b, ne_1_8, ne_1_8b, ne_2_1, ne_2_1b, ne_2_5, ne_2_5b, ne_2_6, ne_2_6b, ne_2_7, ne_2_7b, ne_3_1, ne_3_1b, ne_3_5, ne_3_5b, ne_3_6, ne_3_6b, ne_3_7, ne_3_7b, ne_4_1, ne_4_1b, ne_4_5, ne_4_5b, ne_4_6, ne_4_6b, ne_4_7, ne_4_7b, ne_5_0, ne_5_0b, ne_5_1, ne_5_1b, ne_5_2, ne_5_2b, ne_5_3, ne_5_3b, ne_5_4, ne_5_4b, ne_5_6, ne_5_6b, ne_5_7, ne_5_7b, ne_5_8, ne_5_8b, ne_6_0, ne_6_0b, ne_6_1, ne_6_1b, ne_6_2, ne_6_2b, ne_6_3, ne_6_3b, ne_6_4, ne_6_4b, ne_6_5, ne_6_5b, ne_6_7, ne_6_7b, ne_6_8, ne_6_8b, ne_7_0, ne_7_0b, ne_7_1, ne_7_1b, ne_7_2, ne_7_2b, ne_7_3, ne_7_3b, ne_7_4, ne_7_4b, ne_7_5, ne_7_5b, ne_7_6, ne_7_6b, ne_7_8, ne_7_8b, ne_8_1, ne_8_1b, ne_8_5, ne_8_5b, ne_8_6, ne_8_6b, ne_8_7, ne_8_7b, cxOf, Cx.nox, Cx.wish, tSeq, tAsg, tC, gName, tIfS, tTest, tOp, tUn, rU, rI0, rI, tVar, tNext, tBreak, tRet, tRetN, tDrop, tLst, tTup, tCons, tNil, tCB, tB, tOr, tAnd, tNot, tIf, tCall, tFor_eq, tLc_eq, iRng1, iRng2, iList, iTup, gTup, gTupH, gUnlH, gCons, gNil, gSub, rSetL, rIxL, rIxT, rIxLH, rIxTH, rSlTS, rCatS, rTupS, rIsiH, rLenS, V.ty.injEq, tyS_non, tyS_bl, tyS_int, tyS_str, tyS_ref, tyO_l, tyO_t, tyO_d, tyO_dt, kit_ll, kit_tt, kit_bb, kit_ii, kit_ib, kit_bi, kit_nt, kit_it, kit_st, kit_bt, kit_lt, kit_dt, kit_ni, kit_si, kit_ti, kit_li, kit_di, kit_nb, kit_ns, kit_is, kit_bs, kit_ss, kit_ts, kit_ls, kit_ds, kit_dd, lenS_ref, lenO_l, lenO_t,  rAppend, tM1, rIxS, tSl, tPart, tNoPart, tBM, tBM0, tDGetS, sDPutS, tTruS, truO_l, truO_t, truS_ref, truS_non, truS_bl, truS_int, tFld, sFld, sFldAug, rAdd, tMeth, tMake, tMakeK, List.take_succ_cons, List.take_zero, List.drop_succ_cons, List.drop_zero, List.take_nil, tIsN, tNotN, tAndV, tOrV, tNotV, putF, List.lookup, List.any_cons, List.any_nil, Sum.inr.injEq, HO.ins.injEq, HO.dK.injEq, eq_self, beq_self_eq_true, beq_iff_eq, decide_true, decide_false, Bool.or_true, Bool.true_or, Bool.or_false, Bool.false_or, tYes, rEq, rNe, _root_.L2.start, wipe, List.map_cons, List.map_nil, List.length_cons, List.length_nil, List.append_nil, Nat.reduceAdd, Nat.reduceSub, List.replicate_succ, List.replicate_zero, List.cons_append, List.nil_append, List.getElem?_cons_zero, List.getElem?_cons_succ, List.set_cons_zero, List.set_cons_succ, Option.some.injEq, V.int.injEq, V.ref.injEq, V.bl.injEq, V.str.injEq, List.cons.injEq, HO.lst.injEq, HO.tup.injEq, and_assoc, and_true, true_and, exists_eq_left, exists_eq_left', exists_and_left, exists_eq, reduceCtorEq, false_and, and_false, or_false, false_or, exists_false, decide_eq_true_eq, CPow, CDivW, Int.reducePow, Int.reduceLT, Int.reduceLE, Int.reduceNeg, Int.reduceToNat, Int.reduceAbs, Nat.reducePow, Nat.reduceLT, Nat.reduceLeDiff, sizeLine_eq, Int.reduceMul, Int.reduceAdd, Int.reduceSub, Bool.not_eq_true', decide_eq_false_iff_not, scal, Bool.not_true, Bool.not_false, Bool.true_eq_false, Bool.false_eq_true, ite_false, ite_true, if_true, if_false, ite_self, forall_const, atI0, atI1, atI2, atI3, ixN20, ixN21, upd_same, upd_upd, Int.zero_add, CMul, Int.reduceSub, Nat.le_refl, Nat.zero_le, or_true, true_or, exists_const, Int.sub_zero, s8 _ _ h17, s8 _ _ h27])
        refine ⟨_, _, _, (t7.same s8).b2.lk, (t7.same s8).b2.md, by omega, fun H9 s9 => ?_⟩
        try (try simp only [ne_0_1, ne_0_1b, ne_0_5, ne_0_5b, ne_0_6, ne_0_6b, ne_0_7, ne_0_7b, ne_1_0, ne_1_0b, ne_1_2, ne_1_2b, ne_1_3, ne_1_3b, ne_1_4, ne_1_4b, ne_1_5, ne_1_5b, ne_1_6, ne_1_6b, ne_1_7, ne_1_7b, ne_1_8, ne_1_8b, ne_2_1, ne_2_1b, ne_2_5, ne_2_5b, ne_2_6, ne_2_6b, ne_2_7, ne_2_7b, ne_3_1, ne_3_1b, ne_3_5, ne_3_5b, ne_3_6, ne_3_6b, ne_3_7, ne_3_7b, ne_4_1, ne_4_1b, ne_4_5, ne_4_5b, ne_4_6, ne_4_6b, ne_4_7, ne_4_7b, ne_5_0, ne_5_0b, ne_5_1, ne_5_1b, ne_5_2, ne_5_2b, ne_5_3, ne_5_3b, ne_5_4, ne_5_4b, ne_5_6, ne_5_6b, ne_5_7, ne_5_7b, ne_5_8, ne_5_8b, ne_6_0, ne_6_0b, ne_6_1, ne_6_1b, ne_6_2, ne_6_2b, ne_6_3, ne_6_3b, ne_6_4, ne_6_4b, ne_6_5, ne_6_5b, ne_6_7, ne_6_7b, ne_6_8, ne_6_8b, ne_7_0, ne_7_0b, ne_7_1, ne_7_1b, ne_7_2, ne_7_2b, ne_7_3, ne_7_3b, ne_7_4, ne_7_4b, ne_7_5, ne_7_5b, ne_7_6, ne_7_6b, ne_7_8, ne_7_8b, ne_8_1, ne_8_1b, ne_8_5, ne_8_5b, ne_8_6, ne_8_6b, ne_8_7, ne_8_7b, cxOf, Cx.nox, Cx.wish, tSeq, tAsg, tC, gName, tIfS, tTest, tOp, tUn, rU, rI0, rI, tVar, tNext, tBreak, tRet, tRetN, tDrop, tLst, tTup, tCons, tNil, tCB, tB, tOr, tAnd, tNot, tIf, tCall, tFor_eq, tLc_eq, iRng1, iRng2, iList, iTup, gTup, gTupH, gUnlH, gCons, gNil, gSub, rSetL, rIxL, rIxT, rIxLH, rIxTH, rSlTS, rCatS, rTupS, rIsiH, rLenS, V.ty.injEq, tyS_non, tyS_bl, tyS_int, tyS_str, tyS_ref, tyO_l, tyO_t, tyO_d, tyO_dt, kit_ll, kit_tt, kit_bb, kit_ii, kit_ib, kit_bi, kit_nt, kit_it, kit_st, kit_bt, kit_lt, kit_dt, kit_ni, kit_si, kit_ti, kit_li, kit_di, kit_nb, kit_ns, kit_is, kit_bs, kit_ss, kit_ts, kit_ls, kit_ds, kit_dd, lenS_ref, lenO_l, lenO_t,  rAppend, tM1, rIxS, tSl, tPart, tNoPart, tBM, tBM0, tDGetS, sDPutS, tTruS, truO_l, truO_t, truS_ref, truS_non, truS_bl, truS_int, tFld, sFld, sFldAug, rAdd, tMeth, tMake, tMakeK, List.take_succ_cons, List.take_zero, List.drop_succ_cons, List.drop_zero, List.take_nil, tIsN, tNotN, tAndV, tOrV, tNotV, putF, List.lookup, List.any_cons, List.any_nil, Sum.inr.injEq, HO.ins.injEq, HO.dK.injEq, eq_self, beq_self_eq_true, beq_iff_eq, decide_true, decide_false, Bool.or_true, Bool.true_or, Bool.or_false, Bool.false_or, tYes, rEq, rNe, _root_.L2.start, wipe, List.map_cons, List.map_nil, List.length_cons, List.length_nil, List.append_nil, Nat.reduceAdd, Nat.reduceSub, List.replicate_succ, List.replicate_zero, List.cons_append, List.nil_append, List.getElem?_cons_zero, List.getElem?_cons_succ, List.set_cons_zero, List.set_cons_succ, Option.some.injEq, V.int.injEq, V.ref.injEq, V.bl.injEq, V.str.injEq, List.cons.injEq, HO.lst.injEq, HO.tup.injEq, and_assoc, and_true, true_and, exists_eq_left, exists_eq_left', exists_and_left, exists_eq, reduceCtorEq, false_and, and_false, or_false, false_or, exists_false, decide_eq_true_eq, CPow, CDivW, Int.reducePow, Int.reduceLT, Int.reduceLE, Int.reduceNeg, Int.reduceToNat, Int.reduceAbs, Nat.reducePow, Nat.reduceLT, Nat.reduceLeDiff, sizeLine_eq, Int.reduceMul, Int.reduceAdd, Int.reduceSub, Bool.not_eq_true', decide_eq_false_iff_not, scal, Bool.not_true, Bool.not_false, Bool.true_eq_false, Bool.false_eq_true, ite_false, ite_true, if_true, if_false, ite_self, forall_const, atI0, atI1, atI2, atI3, ixN20, ixN21, upd_same, upd_upd, Int.zero_add, CMul, Int.reduceSub, Nat.le_refl, Nat.zero_le, or_true, true_or, exists_const, Int.sub_zero])
        exact ⟨_, _, _, _, _, _, (t7.same s8).same s9, s9 _ _ (s8 _ _ h17), s9 _ _ (s8 _ _ h27), by omega, by omega⟩
    · clear t h1 hq2'
      rintro σ H4 ⟨l, m, l', m', S, S', b3, b4, b5, b6, b7, rfl, t4, h1, h2, hn, hn'⟩
      (try simp only [ne_0_1, ne_0_1b, ne_0_5, ne_0_5b, ne_0_6, ne_0_6b, ne_0_7, ne_0_7b, ne_1_0, ne_1_0b, ne_1_2, ne_1_2b, ne_1_3, ne_1_3b, ne_1_4, ne_1_4b, ne_1_5, ne_1_5b, ne_1_6, ne_1_6b, ne_1_7, ne_1_7b, ne_1_8, ne_1_8b, ne_2_1, ne_2_1b, ne_2_5, ne_2_5b, ne_2_6, ne_2_6b, ne_2_7, ne_2_7b, ne_3_1, ne_3_1b, ne_3_5, ne_3_5b, ne_3_6, ne_3_6b, ne_3_7, ne_3_7b, ne_4_1, ne_4_1b, ne_4_5, ne_4_5b, ne_4_6, ne_4_6b, ne_4_7, ne_4_7b, ne_5_0, ne_5_0b, ne_5_1, ne_5_1b, ne_5_2, ne_5_2b, ne_5_3, ne_5_3b, ne_5_4, ne_5_4b, ne_5_6, ne_5_6b, ne_5_7, ne_5_7b, ne_5_8, ne_5_8b, ne_6_0, ne_6_0b, ne_6_1, ne_6_1b, ne_6_2, ne_6_2b, ne_6_3, ne_6_3b, ne_6_4, ne_6_4b, ne_6_5, ne_6_5b, ne_6_7, ne_6_7b, ne_6_8, ne_6_8b, ne_7_0, ne_7_0b, ne_7_1, ne_7_1b, ne_7_2, ne_7_2b, ne_7_3, ne_7_3b, ne_7_4, ne_7_4b, ne_7_5, ne_7_5b, ne_7_6, ne_7_6b, ne_7_8, ne_7_8b, ne_8_1, ne_8_1b, ne_8_5, ne_8_5b, ne_8_6, ne_8_6b, ne_8_7, ne_8_7b, cxOf, Cx.nox, Cx.wish, tSeq, tAsg, tC, gName, tIfS, tTest, tOp, tUn, rU, rI0, rI, tVar, tNext, tBreak, tRet, tRetN, tDrop, tLst, tTup, tCons, tNil, tCB, tB, tOr, tAnd, tNot, tIf, tCall, tFor_eq, tLc_eq, iRng1, iRng2, iList, iTup, gTup, gTupH, gUnlH, gCons, gNil, gSub, rSetL, rIxL, rIxT, rIxLH, rIxTH, rSlTS, rCatS, rTupS, rIsiH, rLenS, V.ty.injEq, tyS_non, tyS_bl, tyS_int, tyS_str, tyS_ref, tyO_l, tyO_t, tyO_d, tyO_dt, kit_ll, kit_tt, kit_bb, kit_ii, kit_ib, kit_bi, kit_nt, kit_it, kit_st, kit_bt, kit_lt, kit_dt, kit_ni, kit_si, kit_ti, kit_li, kit_di, kit_nb, kit_ns, kit_is, kit_bs, kit_ss, kit_ts, kit_ls, kit_ds, kit_dd, lenS_ref, lenO_l, lenO_t,  rAppend, tM1, rIxS, tSl, tPart, tNoPart, tBM, tBM0, tDGetS, sDPutS, tTruS, truO_l, truO_t, truS_ref, truS_non, truS_bl, truS_int, tFld, sFld, sFldAug, rAdd, tMeth, tMake, tMakeK, List.take_succ_cons, List.take_zero, List.drop_succ_cons, List.drop_zero, List.take_nil, tIsN, tNotN, tAndV, tOrV, tNotV, putF, List.lookup, List.any_cons, List.any_nil, Sum.inr.injEq, HO.ins.injEq, HO.dK.injEq, eq_self, beq_self_eq_true, beq_iff_eq, decide_true, decide_false, Bool.or_true, Bool.true_or, Bool.or_false, Bool.false_or, tYes, rEq, rNe, _root_.L2.start, wipe, List.map_cons, List.map_nil, List.length_cons, List.length_nil, List.append_nil, Nat.reduceAdd, Nat.reduceSub, List.replicate_succ, List.replicate_zero, List.cons_append, List.nil_append, List.getElem?_cons_zero, List.getElem?_cons_succ, List.set_cons_zero, List.set_cons_succ, Option.some.injEq, V.int.injEq, V.ref.injEq, V.bl.injEq, V.str.injEq, List.cons.injEq, HO.lst.injEq, HO.tup.injEq, and_assoc, and_true, true_and, exists_eq_left, exists_eq_left', exists_and_left, exists_eq, reduceCtorEq, false_and, and_false, or_false, false_or, exists_false, decide_eq_true_eq, CPow, CDivW, Int.reducePow, Int.reduceLT, Int.reduceLE, Int.reduceNeg, Int.reduceToNat, Int.reduceAbs, Nat.reducePow, Nat.reduceLT, Nat.reduceLeDiff, sizeLine_eq, Int.reduceMul, Int.reduceAdd, Int.reduceSub, Bool.not_eq_true', decide_eq_false_iff_not, scal, Bool.not_true, Bool.not_false, Bool.true_eq_false, Bool.false_eq_true, ite_false, ite_true, if_true, if_false, ite_self, forall_const, atI0, atI1, atI2, atI3, ixN20, ixN21, upd_same, upd_upd, Int.zero_add, CMul, Int.reduceSub, Nat.le_refl, Nat.zero_le, or_true, true_or, exists_const, Int.sub_zero, h1, h2, sp_law_emptied])
      refine ⟨_, _, _, t4.b1, by omega, t4.w1, t4.i1, fun H5 fr => ?_⟩
      have B5 := t4.other fr
      obtain ⟨dx, hv, ws, hp, _⟩ := id t4.b1.lk
      obtain ⟨hvd, wsd, hd, _⟩ := id t4.b1.md
      have h15 := fr _ _ h1 (ne_il hp h1).symm t4.q1l (ne_dl hd h1).symm t4.q1m
      have h25 := fr _ _ h2 (ne_il hp h2).symm t4.q2l (ne_dl hd h2).symm t4.q2m
      (try simp only [ne_0_1, ne_0_1b, ne_0_5, ne_0_5b, ne_0_6, ne_0_6b, ne_0_7, ne_0_7b, ne_1_0, ne_1_0b, ne_1_2, ne_1_2b, ne_1_3, ne_1_3b, ne_1_4, ne_1_4b, ne_1_5, ne_1_5b, ne_1_6, ne_1_6b, ne_1_7, ne_1_7b, ne_1_8, ne_1_8b, ne_2_1, ne_2_1b, ne_2_5, ne_2_5b, ne_2_6, ne_2_6b, ne_2_7, ne_2_7b, ne_3_1, ne_3_1b, ne_3_5, ne_3_5b, ne_3_6, ne_3_6b, ne_3_7, ne_3_7b, ne_4_1, ne_4_1b, ne_4_5, ne_4_5b, ne_4_6, ne_4_6b, ne_4_7, ne_4_7b, ne_5_0, ne_5_0b, ne_5_1, ne_5_1b, ne_5_2, ne_5_2b, ne_5_3, ne_5_3b, ne_5_4, ne_5_4b, ne_5_6, ne_5_6b, ne_5_7, ne_5_7b, ne_5_8, ne_5_8b, ne_6_0, ne_6_0b, ne_6_1, ne_6_1b, ne_6_2, ne_6_2b, ne_6_3, ne_6_3b, ne_6_4, ne_6_4b, ne_6_5, ne_6_5b, ne_6_7, ne_6_7b, ne_6_8, ne_6_8b, ne_7_0, ne_7_0b, ne_7_1, ne_7_1b, ne_7_2, ne_7_2b, ne_7_3, ne_7_3b, ne_7_4, ne_7_4b, ne_7_5, ne_7_5b, ne_7_6, ne_7_6b, ne_7_8, ne_7_8b, ne_8_1, ne_8_1b, ne_8_5, ne_8_5b, ne_8_6, ne_8_6b, ne_8_7, ne_8_7b, cxOf, Cx.nox, Cx.wish, tSeq, tAsg, tC, gName, tIfS, tTest, tOp, tUn, rU, rI0, rI, tVar, tNext, tBreak, tRet, tRetN, tDrop, tLst, tTup, tCons, tNil, tCB, tB, tOr, tAnd, tNot, tIf, tCall, tFor_eq, tLc_eq, iRng1, iRng2, iList, iTup, gTup, gTupH, gUnlH, gCons, gNil, gSub, rSetL, rIxL, rIxT, rIxLH, rIxTH, rSlTS, rCatS, rTupS, rIsiH, rLenS, V.ty.injEq, tyS_non, tyS_bl, tyS_int, tyS_str, tyS_ref, tyO_l, tyO_t, tyO_d, tyO_dt, kit_ll, kit_tt, kit_bb, kit_ii, kit_ib, kit_bi, kit_nt, kit_it, kit_st, kit_bt, kit_lt, kit_dt, kit_ni, kit_si, kit_ti, kit_li, kit_di, kit_nb, kit_ns, kit_is, kit_bs, kit_ss, kit_ts, kit_ls, kit_ds, kit_dd, lenS_ref, lenO_l, lenO_t,  rAppend, tM1, rIxS, tSl, tPart, tNoPart, tBM, tBM0, tDGetS, sDPutS, tTruS, truO_l, truO_t, truS_ref, truS_non, truS_bl, truS_int, tFld, sFld, sFldAug, rAdd, tMeth, tMake, tMakeK, List.take_succ_cons, List.take_zero, List.drop_succ_cons, List.drop_zero, List.take_nil, tIsN, tNotN, tAndV, tOrV, tNotV, putF, List.lookup, List.any_cons, List.any_nil, Sum.inr.injEq, HO.ins.injEq, HO.dK.injEq, eq_self, beq_self_eq_true, beq_iff_eq, decide_true, decide_false, Bool.or_true, Bool.true_or, Bool.or_false, Bool.false_or, tYes, rEq, rNe, _root_.L2.start, wipe, List.map_cons, List.map_nil, List.length_cons, List.length_nil, List.append_nil, Nat.reduceAdd, Nat.reduceSub, List.replicate_succ, List.replicate_zero, List.cons_append, List.nil_append, List.getElem?_cons_zero, List.getElem?_cons_succ, List.set_cons_zero, List.set_cons_succ, Option.some.injEq, V.int.injEq, V.ref.injEq, V.bl.injEq, V.str.injEq, List.cons.injEq, HO.lst.injEq, HO.tup.injEq, and_assoc, and_true, true_and, exists_eq_left, exists_eq_left', exists_and_left, exists_eq, reduceCtorEq, false_and, and_false, or_false, false_or, exists_false, decide_eq_true_eq, CPow, CDivW, Int.reducePow, Int.reduceLT, Int.reduceLE, Int.reduceNeg, Int.reduceToNat, Int.reduceAbs, Nat.reducePow, Nat.reduceLT, Nat.reduceLeDiff, sizeLine_eq, Int.reduceMul, Int.reduceAdd, Int.reduceSub, Bool.not_eq_true', decide_eq_false_iff_not, scal, Bool.not_true, Bool.not_false, Bool.true_eq_false, Bool.false_eq_true, ite_false, ite_true, if_true, if_false, ite_self, forall_const, atI0, atI1, atI2, atI3, ixN20, ixN21, upd_same, upd_upd, Int.zero_add, CMul, Int.reduceSub, Nat.le_refl, Nat.zero_le, or_true, true_or, exists_const, Int.sub_zero, h15, h25])
      refine ⟨_, _, _, B5, by omega, t4.w2, t4.i2, fun H6 _ => ?_⟩
      exact kk _
end
theorem all_mk {l : PySem.W.OpenLaw} {w : World} {K : PySem.W.Frag} {h : Heap} {mg : Str → Option Value} {fa C_Lock f_Lock_init T1 f_Lock_waiting f_Lock_ask f_Lock_free f_Lock_finish f_Lock_grant f_law_stream f_law_next f_law_is f_law_who f_law_model f_law_free f_law_ask f_law_finish f_law_lock_is f_law_deed f_law_emptied f_law : Addr} (X : K.In h) (G : h.Ns mainGlobals mg) (hfa : mg "law" = some (.ref fa))
    {od1 an1 td1 od2 an2 od3 an3 od4 an4 od5 an5 od6 an6 od7 an7 od8 an8 od9 an9 od10 an10 od11 an11 od12 an12 od13 an13 od14 an14 od15 an15 od16 an16 od17 an17 od18 an18 : Option Addr} {sl1 ts1 sl2 sl3 sl4 sl5 sl6 sl7 sl8 sl9 sl10 sl11 sl12 sl13 sl14 sl15 sl16 sl17 sl18 : Array (Option Value)} {oc1 kV1 dc1 pm1 cd1 ct1 tc1 oc2 kV2 dc2 pm2 cd2 ct2 oc3 kV3 dc3 pm3 cd3 ct3 oc4 kV4 dc4 pm4 cd4 ct4 oc5 kV5 dc5 pm5 cd5 ct5 oc6 kV6 dc6 pm6 cd6 ct6 oc7 kV7 dc7 pm7 cd7 ct7 oc8 kV8 dc8 pm8 cd8 ct8 oc9 kV9 dc9 pm9 cd9 ct9 oc10 kV10 dc10 pm10 cd10 ct10 oc11 kV11 dc11 pm11 cd11 ct11 oc12 kV12 dc12 pm12 cd12 ct12 oc13 kV13 dc13 pm13 cd13 ct13 oc14 kV14 dc14 pm14 cd14 ct14 oc15 kV15 dc15 pm15 cd15 ct15 oc16 kV16 dc16 pm16 cd16 ct16 oc17 kV17 dc17 pm17 cd17 ct17 oc18 kV18 dc18 pm18 cd18 ct18 : Value}
    {u1_0 u1_1 : Tok}
    {tn1 : Nat}
    (aC_Lock : PySem.W.nsIn K mainGlobals "Lock" = some (some (.ref C_Lock)))
    (pg_Lock : PySem.W.plainGet K C_Lock Str.empty = true)
    (hd_Lock : PySem.W.hasDictIn K C_Lock = true)
    (po_Lock : PySem.W.plainOver K C_Lock = true)
    (sa_Lock : PySem.W.findIn K (.ref C_Lock) "__setattr__" = some (some (.builtin "object.__setattr__")))
    (mk_Lock : PySem.W.makesIn K C_Lock = true)
    (kc_Lock : PySem.W.keepIn K (.ref C_Lock) = true)
    (na_Lock_value : PySem.W.findIn K (.ref C_Lock) "value" = some none)
    (na_Lock_turn : PySem.W.findIn K (.ref C_Lock) "turn" = some none)
    (na_Lock_holder : PySem.W.findIn K (.ref C_Lock) "holder" = some none)
    (na_Lock_waiting : PySem.W.findIn K (.ref C_Lock) "_waiting" = some none)
    (a1 : PySem.W.findIn K (.ref C_Lock) "__init__" = some (some (.ref f_Lock_init)))
    (i1 : PySem.W.isFn K (.ref f_Lock_init) = true)
    (l1 : K.lookup f_Lock_init = some ⟨oc1, od1, .func (PySem.W.fnOf "__init__" "Lock.__init__" (defArgs s_Lock_init) (defBody s_Lock_init) (defScope s_Lock_init) (.ref T1) kV1 dc1 pm1 an1 cd1 ct1), sl1⟩)
    (c1 : PySem.W.codeIn K cd1 "Lock.__init__" = true)
    (k1 : PySem.W.keepIn K (.ref f_Lock_init) = true)
    (t1 : K.lookup T1 = some ⟨tc1, td1, .seq #[.int 0 u1_0, .int 0 u1_1, .none] tn1, ts1⟩)
    (a2 : PySem.W.findIn K (.ref C_Lock) "waiting" = some (some (.ref f_Lock_waiting)))
    (i2 : PySem.W.isFn K (.ref f_Lock_waiting) = true)
    (l2 : K.lookup f_Lock_waiting = some ⟨oc2, od2, .func (PySem.W.fnOf "waiting" "Lock.waiting" (defArgs s_Lock_waiting) (defBody s_Lock_waiting) (defScope s_Lock_waiting) .none kV2 dc2 pm2 an2 cd2 ct2), sl2⟩)
    (c2 : PySem.W.codeIn K cd2 "Lock.waiting" = true)
    (k2 : PySem.W.keepIn K (.ref f_Lock_waiting) = true)
    (a3 : PySem.W.findIn K (.ref C_Lock) "ask" = some (some (.ref f_Lock_ask)))
    (i3 : PySem.W.isFn K (.ref f_Lock_ask) = true)
    (l3 : K.lookup f_Lock_ask = some ⟨oc3, od3, .func (PySem.W.fnOf "ask" "Lock.ask" (defArgs s_Lock_ask) (defBody s_Lock_ask) (defScope s_Lock_ask) .none kV3 dc3 pm3 an3 cd3 ct3), sl3⟩)
    (c3 : PySem.W.codeIn K cd3 "Lock.ask" = true)
    (k3 : PySem.W.keepIn K (.ref f_Lock_ask) = true)
    (a4 : PySem.W.findIn K (.ref C_Lock) "free" = some (some (.ref f_Lock_free)))
    (i4 : PySem.W.isFn K (.ref f_Lock_free) = true)
    (l4 : K.lookup f_Lock_free = some ⟨oc4, od4, .func (PySem.W.fnOf "free" "Lock.free" (defArgs s_Lock_free) (defBody s_Lock_free) (defScope s_Lock_free) .none kV4 dc4 pm4 an4 cd4 ct4), sl4⟩)
    (c4 : PySem.W.codeIn K cd4 "Lock.free" = true)
    (k4 : PySem.W.keepIn K (.ref f_Lock_free) = true)
    (a5 : PySem.W.findIn K (.ref C_Lock) "finish" = some (some (.ref f_Lock_finish)))
    (i5 : PySem.W.isFn K (.ref f_Lock_finish) = true)
    (l5 : K.lookup f_Lock_finish = some ⟨oc5, od5, .func (PySem.W.fnOf "finish" "Lock.finish" (defArgs s_Lock_finish) (defBody s_Lock_finish) (defScope s_Lock_finish) .none kV5 dc5 pm5 an5 cd5 ct5), sl5⟩)
    (c5 : PySem.W.codeIn K cd5 "Lock.finish" = true)
    (k5 : PySem.W.keepIn K (.ref f_Lock_finish) = true)
    (a6 : PySem.W.findIn K (.ref C_Lock) "_grant" = some (some (.ref f_Lock_grant)))
    (i6 : PySem.W.isFn K (.ref f_Lock_grant) = true)
    (l6 : K.lookup f_Lock_grant = some ⟨oc6, od6, .func (PySem.W.fnOf "_grant" "Lock._grant" (defArgs s_Lock_grant) (defBody s_Lock_grant) (defScope s_Lock_grant) .none kV6 dc6 pm6 an6 cd6 ct6), sl6⟩)
    (c6 : PySem.W.codeIn K cd6 "Lock._grant" = true)
    (k6 : PySem.W.keepIn K (.ref f_Lock_grant) = true)
    (a7 : PySem.W.nsIn K mainGlobals "_law_stream" = some (some (.ref f_law_stream)))
    (l7 : K.lookup f_law_stream = some ⟨oc7, od7, .func (PySem.W.fnOf "_law_stream" "_law_stream" (defArgs s_law_stream) (defBody s_law_stream) (defScope s_law_stream) .none kV7 dc7 pm7 an7 cd7 ct7), sl7⟩)
    (c7 : PySem.W.codeIn K cd7 "_law_stream" = true)
    (k7 : PySem.W.keepIn K (.ref f_law_stream) = true)
    (a8 : PySem.W.nsIn K mainGlobals "_law_next" = some (some (.ref f_law_next)))
    (l8 : K.lookup f_law_next = some ⟨oc8, od8, .func (PySem.W.fnOf "_law_next" "_law_next" (defArgs s_law_next) (defBody s_law_next) (defScope s_law_next) .none kV8 dc8 pm8 an8 cd8 ct8), sl8⟩)
    (c8 : PySem.W.codeIn K cd8 "_law_next" = true)
    (k8 : PySem.W.keepIn K (.ref f_law_next) = true)
    (a9 : PySem.W.nsIn K mainGlobals "_law_is" = some (some (.ref f_law_is)))
    (l9 : K.lookup f_law_is = some ⟨oc9, od9, .func (PySem.W.fnOf "_law_is" "_law_is" (defArgs s_law_is) (defBody s_law_is) (defScope s_law_is) .none kV9 dc9 pm9 an9 cd9 ct9), sl9⟩)
    (c9 : PySem.W.codeIn K cd9 "_law_is" = true)
    (k9 : PySem.W.keepIn K (.ref f_law_is) = true)
    (a10 : PySem.W.nsIn K mainGlobals "_law_who" = some (some (.ref f_law_who)))
    (l10 : K.lookup f_law_who = some ⟨oc10, od10, .func (PySem.W.fnOf "_law_who" "_law_who" (defArgs s_law_who) (defBody s_law_who) (defScope s_law_who) .none kV10 dc10 pm10 an10 cd10 ct10), sl10⟩)
    (c10 : PySem.W.codeIn K cd10 "_law_who" = true)
    (k10 : PySem.W.keepIn K (.ref f_law_who) = true)
    (a11 : PySem.W.nsIn K mainGlobals "_law_model" = some (some (.ref f_law_model)))
    (l11 : K.lookup f_law_model = some ⟨oc11, od11, .func (PySem.W.fnOf "_law_model" "_law_model" (defArgs s_law_model) (defBody s_law_model) (defScope s_law_model) .none kV11 dc11 pm11 an11 cd11 ct11), sl11⟩)
    (c11 : PySem.W.codeIn K cd11 "_law_model" = true)
    (k11 : PySem.W.keepIn K (.ref f_law_model) = true)
    (a12 : PySem.W.nsIn K mainGlobals "_law_free" = some (some (.ref f_law_free)))
    (l12 : K.lookup f_law_free = some ⟨oc12, od12, .func (PySem.W.fnOf "_law_free" "_law_free" (defArgs s_law_free) (defBody s_law_free) (defScope s_law_free) .none kV12 dc12 pm12 an12 cd12 ct12), sl12⟩)
    (c12 : PySem.W.codeIn K cd12 "_law_free" = true)
    (k12 : PySem.W.keepIn K (.ref f_law_free) = true)
    (a13 : PySem.W.nsIn K mainGlobals "_law_ask" = some (some (.ref f_law_ask)))
    (l13 : K.lookup f_law_ask = some ⟨oc13, od13, .func (PySem.W.fnOf "_law_ask" "_law_ask" (defArgs s_law_ask) (defBody s_law_ask) (defScope s_law_ask) .none kV13 dc13 pm13 an13 cd13 ct13), sl13⟩)
    (c13 : PySem.W.codeIn K cd13 "_law_ask" = true)
    (k13 : PySem.W.keepIn K (.ref f_law_ask) = true)
    (a14 : PySem.W.nsIn K mainGlobals "_law_finish" = some (some (.ref f_law_finish)))
    (l14 : K.lookup f_law_finish = some ⟨oc14, od14, .func (PySem.W.fnOf "_law_finish" "_law_finish" (defArgs s_law_finish) (defBody s_law_finish) (defScope s_law_finish) .none kV14 dc14 pm14 an14 cd14 ct14), sl14⟩)
    (c14 : PySem.W.codeIn K cd14 "_law_finish" = true)
    (k14 : PySem.W.keepIn K (.ref f_law_finish) = true)
    (a15 : PySem.W.nsIn K mainGlobals "_law_lock_is" = some (some (.ref f_law_lock_is)))
    (l15 : K.lookup f_law_lock_is = some ⟨oc15, od15, .func (PySem.W.fnOf "_law_lock_is" "_law_lock_is" (defArgs s_law_lock_is) (defBody s_law_lock_is) (defScope s_law_lock_is) .none kV15 dc15 pm15 an15 cd15 ct15), sl15⟩)
    (c15 : PySem.W.codeIn K cd15 "_law_lock_is" = true)
    (k15 : PySem.W.keepIn K (.ref f_law_lock_is) = true)
    (a16 : PySem.W.nsIn K mainGlobals "_law_deed" = some (some (.ref f_law_deed)))
    (l16 : K.lookup f_law_deed = some ⟨oc16, od16, .func (PySem.W.fnOf "_law_deed" "_law_deed" (defArgs s_law_deed) (defBody s_law_deed) (defScope s_law_deed) .none kV16 dc16 pm16 an16 cd16 ct16), sl16⟩)
    (c16 : PySem.W.codeIn K cd16 "_law_deed" = true)
    (k16 : PySem.W.keepIn K (.ref f_law_deed) = true)
    (a17 : PySem.W.nsIn K mainGlobals "_law_emptied" = some (some (.ref f_law_emptied)))
    (l17 : K.lookup f_law_emptied = some ⟨oc17, od17, .func (PySem.W.fnOf "_law_emptied" "_law_emptied" (defArgs s_law_emptied) (defBody s_law_emptied) (defScope s_law_emptied) .none kV17 dc17 pm17 an17 cd17 ct17), sl17⟩)
    (c17 : PySem.W.codeIn K cd17 "_law_emptied" = true)
    (k17 : PySem.W.keepIn K (.ref f_law_emptied) = true)
    (a18 : PySem.W.nsIn K mainGlobals "law" = some (some (.ref f_law)))
    (l18 : K.lookup f_law = some ⟨oc18, od18, .func (PySem.W.fnOf "law" "law" (defArgs s_law) (defBody s_law) (defScope s_law) .none kV18 dc18 pm18 an18 cd18 ct18), sl18⟩)
    (c18 : PySem.W.codeIn K cd18 "law" = true)
    (k18 : PySem.W.keepIn K (.ref f_law) = true)
    (zz_sorted : PySem.W.nsIn K mainGlobals "sorted" = some none)
    (zz_min : PySem.W.nsIn K mainGlobals "min" = some none)
    (zz_int : PySem.W.nsIn K mainGlobals "int" = some none)
    (zz_isinstance : PySem.W.nsIn K mainGlobals "isinstance" = some none)
    (zz_bool : PySem.W.nsIn K mainGlobals "bool" = some none)
    (zz_list : PySem.W.nsIn K mainGlobals "list" = some none)
    (zz_max : PySem.W.nsIn K mainGlobals "max" = some none)
    (zz_range : PySem.W.nsIn K mainGlobals "range" = some none)
    (zz_len : PySem.W.nsIn K mainGlobals "len" = some none)
    : ∃ fd : FuncData, (∀ (s : Shared) (v : Value), BindsTo s fd ⟨[v], []⟩ [("_law_script", v)]) ∧ ∀ base : Heap, K.In base → base.Ns mainGlobals mg → FnOk l.prog w K mg base CX0 5 fa fd ["_law_script"] (spLaw K) := by
  have e := hfa.symm.trans (PySem.W.mg_of X G a18)
  have e2 : fa = f_law := by injection e with e; injection e
  subst e2
  have F1 : FunD K "__init__" "Lock.__init__" (defArgs s_Lock_init) (defBody s_Lock_init) (defScope s_Lock_init) [V.int 0, V.int 0, V.non] [] f_Lock_init _ := ⟨⟨oc1, od1, .ref T1, kV1, dc1, pm1, an1, cd1, ct1, sl1, rfl, l1, c1, .inr ⟨by simp, T1, _, [.int 0 u1_0, .int 0 u1_1, .none], tn1, rfl, t1, rfl, (.cons ⟨_, rfl⟩ (.cons ⟨_, rfl⟩ (.cons rfl .nil)))⟩, .inl rfl⟩, k1⟩
  obtain ⟨ds1_1, dv1_1, b1_1⟩ := FunD.binds1 (ps := ["self", "value", "turn", "holder"]) F1 1 0 (by simp) rfl (fun _ _ _ _ _ _ _ us its hl hi => match us, its, hl, hi with | [_], [_, _, _], _, _ => ⟨_, rfl, rfl⟩)
  have F2 := fun_mk (st := s_Lock_waiting) l2 c2 k2
  have b2 := F2.binds (ps := ["self"]) fun _ _ _ _ _ _ us hl => match us, hl with | [_], _ => rfl
  have F3 := fun_mk (st := s_Lock_ask) l3 c3 k3
  have b3 := F3.binds (ps := ["self", "who"]) fun _ _ _ _ _ _ us hl => match us, hl with | [_, _], _ => rfl
  have F4 := fun_mk (st := s_Lock_free) l4 c4 k4
  have b4 := F4.binds (ps := ["self", "transaction", "attempt"]) fun _ _ _ _ _ _ us hl => match us, hl with | [_, _, _], _ => rfl
  have F5 := fun_mk (st := s_Lock_finish) l5 c5 k5
  have b5 := F5.binds (ps := ["self", "who", "value"]) fun _ _ _ _ _ _ us hl => match us, hl with | [_, _, _], _ => rfl
  have F6 := fun_mk (st := s_Lock_grant) l6 c6 k6
  have b6 := F6.binds (ps := ["self", "who"]) fun _ _ _ _ _ _ us hl => match us, hl with | [_, _], _ => rfl
  have F7 := fun_mk (st := s_law_stream) l7 c7 k7
  have b7 := F7.binds (ps := ["_law_cell", "_law_k"]) fun _ _ _ _ _ _ us hl => match us, hl with | [_, _], _ => rfl
  have F8 := fun_mk (st := s_law_next) l8 c8 k8
  have b8 := F8.binds (ps := ["_law_stream_here", "_law_size"]) fun _ _ _ _ _ _ us hl => match us, hl with | [_, _], _ => rfl
  have F9 := fun_mk (st := s_law_is) l9 c9 k9
  have b9 := F9.binds (ps := ["_law_actual", "_law_due"]) fun _ _ _ _ _ _ us hl => match us, hl with | [_, _], _ => rfl
  have F10 := fun_mk (st := s_law_who) l10 c10 k10
  have b10 := F10.binds (ps := ["_law_stream_here"]) fun _ _ _ _ _ _ us hl => match us, hl with | [_], _ => rfl
  have F11 := fun_mk (st := s_law_model) l11 c11 k11
  have b11 := F11.binds (ps := ["_law_value", "_law_turn", "_law_holder"]) fun _ _ _ _ _ _ us hl => match us, hl with | [_, _, _], _ => rfl
  have F12 := fun_mk (st := s_law_free) l12 c12 k12
  have b12 := F12.binds (ps := ["_law_model_here", "_law_transaction", "_law_attempt"]) fun _ _ _ _ _ _ us hl => match us, hl with | [_, _, _], _ => rfl
  have F13 := fun_mk (st := s_law_ask) l13 c13 k13
  have b13 := F13.binds (ps := ["_law_model_here", "_law_who_here"]) fun _ _ _ _ _ _ us hl => match us, hl with | [_, _], _ => rfl
  have F14 := fun_mk (st := s_law_finish) l14 c14 k14
  have b14 := F14.binds (ps := ["_law_model_here", "_law_who_here", "_law_value"]) fun _ _ _ _ _ _ us hl => match us, hl with | [_, _, _], _ => rfl
  have F15 := fun_mk (st := s_law_lock_is) l15 c15 k15
  have b15 := F15.binds (ps := ["_law_lock", "_law_model_here"]) fun _ _ _ _ _ _ us hl => match us, hl with | [_, _], _ => rfl
  have F16 := fun_mk (st := s_law_deed) l16 c16 k16
  have b16 := F16.binds (ps := ["_law_lock", "_law_model_here", "_law_stream_here"]) fun _ _ _ _ _ _ us hl => match us, hl with | [_, _, _], _ => rfl
  have F17 := fun_mk (st := s_law_emptied) l17 c17 k17
  have b17 := F17.binds (ps := ["_law_lock", "_law_model_here"]) fun _ _ _ _ _ _ us hl => match us, hl with | [_, _], _ => rfl
  have F18 := fun_mk (st := s_law) l18 c18 k18
  have b18 := F18.binds (ps := ["_law_script"]) fun _ _ _ _ _ _ us hl => match us, hl with | [_], _ => rfl
  exact ⟨PySem.W.fnOf "law" "law" (defArgs s_law) (defBody s_law) (defScope s_law) .none kV18 dc18 pm18 an18 cd18 ct18, fun s v => .of_eq rfl, fun base _ _ => ok_law (⟨C_Lock, ⟨pg_Lock, hd_Lock, po_Lock, sa_Lock⟩, PySem.W.mg_of X G aC_Lock, na_Lock_value, na_Lock_turn, na_Lock_holder, na_Lock_waiting, f_Lock_init, _, F1, ds1_1, dv1_1, b1_1, ⟨mk_Lock, a1, i1, kc_Lock⟩, f_Lock_waiting, _, F2, b2, ⟨a2, i2, k2⟩, f_Lock_ask, _, F3, b3, ⟨a3, i3, k3⟩, f_Lock_free, _, F4, b4, ⟨a4, i4, k4⟩, f_Lock_finish, _, F5, b5, ⟨a5, i5, k5⟩, f_Lock_grant, _, F6, b6, ⟨a6, i6, k6⟩, f_law_stream, _, F7, b7, PySem.W.mg_of X G a7, f_law_next, _, F8, b8, PySem.W.mg_of X G a8, f_law_is, _, F9, b9, PySem.W.mg_of X G a9, f_law_who, _, F10, b10, PySem.W.mg_of X G a10, f_law_model, _, F11, b11, PySem.W.mg_of X G a11, f_law_free, _, F12, b12, PySem.W.mg_of X G a12, f_law_ask, _, F13, b13, PySem.W.mg_of X G a13, f_law_finish, _, F14, b14, PySem.W.mg_of X G a14, f_law_lock_is, _, F15, b15, PySem.W.mg_of X G a15, f_law_deed, _, F16, b16, PySem.W.mg_of X G a16, f_law_emptied, _, F17, b17, PySem.W.mg_of X G a17, fa, _, F18, b18, PySem.W.mg_of X G a18, PySem.W.mg_none_of X G zz_sorted, PySem.W.mg_none_of X G zz_min, PySem.W.mg_none_of X G zz_int, PySem.W.mg_none_of X G zz_isinstance, PySem.W.mg_none_of X G zz_bool, PySem.W.mg_none_of X G zz_list, PySem.W.mg_none_of X G zz_max, PySem.W.mg_none_of X G zz_range, PySem.W.mg_none_of X G zz_len⟩ : Txt K mg)⟩
theorem walk {l : PySem.W.OpenLaw} {q : Program} {loose : List Str} {XP : (Str → Option Value) → Heap → Prop} {YP : World → Heap → Prop} {d : DefRec} {K : Params → PySem.W.Frag} (hn : l.most = some 63) (hdf : d.params.defaults = [])
    (hY : ∀ (w : World) (h : Heap), YP w h → (K w.params).In h)
    (F : ∀ (w : World) (mg : Str → Option Value) (fa : Addr) (h : Heap), (K w.params).In h → h.Ns mainGlobals mg → mg d.name = some (.ref fa) →
      ∃ fd : FuncData, (∀ (s : Shared) (u : Value), BindsTo s fd ⟨[u], []⟩ [("_law_script", u)]) ∧ ∀ base : Heap, (K w.params).In base → base.Ns mainGlobals mg → FnOk l.prog w (K w.params) mg base CX0 5 fa fd ["_law_script"] (spLaw (K w.params))) :
    PySem.W.WalkO q loose XP YP l.row.toRowW d [] (fun f vs => PySem.call f vs) :=
  L2.walk_of (n := 63) (k := 5) (x := "_law_script") (CX := fun _ => CX0) (sp := fun w => spLaw (K w.params)) hn (by decide) hdf ⟨rfl, by decide, by decide⟩ hY F (fun _ _ a ns hl _ hS => ⟨a, ns, rfl, hS, hl, fun _ => rfl⟩) fun _ _ _ _ _ z => z
end G4
open PySem PySem.W PyProof.Rows
set_option maxRecDepth 100000 in
set_option maxHeartbeats 0 in
theorem PySem.Challenge.cw_ringloosed_k10_whole_locks_side_by_side_holds : PySem.Challenge.rw_ringloosed_k10_whole_locks_side_by_side.Holds := by
  w_on; o_law; k_head; (case hw => w_witness2)
  k_fill
  refine G4.walk (l := PySem.Challenge.rw_ringloosed_k10_whole_locks_side_by_side) rfl rfl (fun w h Y => PySem.W.kIn_of Y) ?F
  case F =>
    intro w mg fa h KX G hmg
    refine' G4.all_mk KX G hmg ?aC_Lock ?pg_Lock ?hd_Lock ?po_Lock ?sa_Lock ?mk_Lock ?kc_Lock ?na_Lock_value ?na_Lock_turn ?na_Lock_holder ?na_Lock_waiting ?a1 ?i1 ?l1 ?c1 ?k1 ?t1 ?a2 ?i2 ?l2 ?c2 ?k2 ?a3 ?i3 ?l3 ?c3 ?k3 ?a4 ?i4 ?l4 ?c4 ?k4 ?a5 ?i5 ?l5 ?c5 ?k5 ?a6 ?i6 ?l6 ?c6 ?k6 ?a7 ?l7 ?c7 ?k7 ?a8 ?l8 ?c8 ?k8 ?a9 ?l9 ?c9 ?k9 ?a10 ?l10 ?c10 ?k10 ?a11 ?l11 ?c11 ?k11 ?a12 ?l12 ?c12 ?k12 ?a13 ?l13 ?c13 ?k13 ?a14 ?l14 ?c14 ?k14 ?a15 ?l15 ?c15 ?k15 ?a16 ?l16 ?c16 ?k16 ?a17 ?l17 ?c17 ?k17 ?a18 ?l18 ?c18 ?k18 ?zz_sorted ?zz_min ?zz_int ?zz_isinstance ?zz_bool ?zz_list ?zz_max ?zz_range ?zz_len
    (case aC_Lock => k_is)
    (case pg_Lock => k_is)
    (case hd_Lock => k_is)
    (case po_Lock => k_is)
    (case sa_Lock => k_is)
    (case mk_Lock => k_is)
    (case kc_Lock => k_is)
    (case na_Lock_value => k_is)
    (case na_Lock_turn => k_is)
    (case na_Lock_holder => k_is)
    (case na_Lock_waiting => k_is)
    (case a1 => k_is)
    (case i1 => k_is)
    (case l1 => k_is)
    (case c1 => k_is)
    (case k1 => k_is)
    (case t1 => k_is)
    (case a2 => k_is)
    (case i2 => k_is)
    (case l2 => k_is)
    (case c2 => k_is)
    (case k2 => k_is)
    (case a3 => k_is)
    (case i3 => k_is)
    (case l3 => k_is)
    (case c3 => k_is)
    (case k3 => k_is)
    (case a4 => k_is)
    (case i4 => k_is)
    (case l4 => k_is)
    (case c4 => k_is)
    (case k4 => k_is)
    (case a5 => k_is)
    (case i5 => k_is)
    (case l5 => k_is)
    (case c5 => k_is)
    (case k5 => k_is)
    (case a6 => k_is)
    (case i6 => k_is)
    (case l6 => k_is)
    (case c6 => k_is)
    (case k6 => k_is)
    (case a7 => k_is)
    (case l7 => k_is)
    (case c7 => k_is)
    (case k7 => k_is)
    (case a8 => k_is)
    (case l8 => k_is)
    (case c8 => k_is)
    (case k8 => k_is)
    (case a9 => k_is)
    (case l9 => k_is)
    (case c9 => k_is)
    (case k9 => k_is)
    (case a10 => k_is)
    (case l10 => k_is)
    (case c10 => k_is)
    (case k10 => k_is)
    (case a11 => k_is)
    (case l11 => k_is)
    (case c11 => k_is)
    (case k11 => k_is)
    (case a12 => k_is)
    (case l12 => k_is)
    (case c12 => k_is)
    (case k12 => k_is)
    (case a13 => k_is)
    (case l13 => k_is)
    (case c13 => k_is)
    (case k13 => k_is)
    (case a14 => k_is)
    (case l14 => k_is)
    (case c14 => k_is)
    (case k14 => k_is)
    (case a15 => k_is)
    (case l15 => k_is)
    (case c15 => k_is)
    (case k15 => k_is)
    (case a16 => k_is)
    (case l16 => k_is)
    (case c16 => k_is)
    (case k16 => k_is)
    (case a17 => k_is)
    (case l17 => k_is)
    (case c17 => k_is)
    (case k17 => k_is)
    (case a18 => k_is)
    (case l18 => k_is)
    (case c18 => k_is)
    (case k18 => k_is)
    (case zz_sorted => k_is)
    (case zz_min => k_is)
    (case zz_int => k_is)
    (case zz_isinstance => k_is)
    (case zz_bool => k_is)
    (case zz_list => k_is)
    (case zz_max => k_is)
    (case zz_range => k_is)
    (case zz_len => k_is)
