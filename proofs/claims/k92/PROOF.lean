import PyProof.Rows.All
import Wide.All
import OpenK.AllK
import Wide.FinOn
import HandS.Base
import HandS.Call
import HandS.List
import HandS.Comp
import HandS.Ends
import HandS.Dict
import HandS.Iter
import HandS.Text
import HandS.Words
import HandS.WordsList
import HandS.WordsDict
import HandS.Wide
import HandS.WideBits
import HandS.SortInts
import HandS.Style
import HandS.IsInst
import HandS.Flow
import HandS.Defaults
import HandS.Head0
import HandS.Head1
import HandS.Head2
import HandS.HeadEnd
import HandS.HeadHook1
import HandS.HeadHook2
import HandS.RaiseMore
import PySem.Challenge.RW_firstbooks_k92_numbers_taken_one_by_one
set_option Elab.async false
set_option linter.all false
set_option maxRecDepth 100000
set_option maxHeartbeats 4000000
set_option exponentiation.threshold 3000

namespace Wp
open PySem L2

abbrev Fg := PySem.W.Frag
abbrev DL := List (V × PyData)

/-! heaps: extension, the part without some addresses -/
def Ex (H H' : Hp) : Prop := ∀ a o, H a = some o → H' a = some o
theorem Ex.refl (H : Hp) : Ex H H := fun _ _ h => h
theorem Ex.trans {H H1 H2 : Hp} (e : Ex H H1) (f : Ex H1 H2) : Ex H H2 := fun a o h => f a o (e a o h)
theorem Ex.upd {H : Hp} {p : Addr} {o : HO} (h : H p = none) : Ex H (upd H p o) := by
  intro a u ha
  rw [upd_ne (ne_of_none ha h)]
  exact ha
def cut (H : Hp) (M : List Addr) : Hp := fun a => if a ∈ M then none else H a
theorem cut_in {H : Hp} {M : List Addr} {a : Addr} (h : a ∈ M) : cut H M a = none := by simp [cut, h]
theorem cut_out {H : Hp} {M : List Addr} {a : Addr} (h : a ∉ M) : cut H M a = H a := by simp [cut, h]
theorem cut_le {H : Hp} {M : List Addr} : Ex (cut H M) H := by
  intro a o h
  by_cases hm : a ∈ M
  · rw [cut_in hm] at h; cases h
  · rw [cut_out hm] at h; exact h
theorem cut_mono {H H' : Hp} {M : List Addr} (e : Ex H H') : Ex (cut H M) (cut H' M) := by
  intro a o h
  by_cases hm : a ∈ M
  · rw [cut_in hm] at h; cases h
  · rw [cut_out hm] at h ⊢; exact e a o h
theorem cut_less {H : Hp} {M M' : List Addr} (h : ∀ a ∈ M', a ∈ M) : Ex (cut H M) (cut H M') := by
  intro a o ha
  by_cases hm : a ∈ M
  · rw [cut_in hm] at ha; cases ha
  · rw [cut_out hm] at ha; rw [cut_out (fun z => hm (h a z))]; exact ha
theorem cut_same {H : Hp} {M M' : List Addr} (h : ∀ a, a ∈ M ↔ a ∈ M') : cut H M = cut H M' := by
  funext a
  by_cases hm : a ∈ M
  · rw [cut_in hm, cut_in ((h a).mp hm)]
  · rw [cut_out hm, cut_out (fun z => hm ((h a).mpr z))]
theorem cut_upd_in {H : Hp} {M : List Addr} {p : Addr} {o : HO} (h : p ∈ M) : cut (upd H p o) M = cut H M := by
  funext a
  by_cases hm : a ∈ M
  · rw [cut_in hm, cut_in hm]
  · rw [cut_out hm, cut_out hm, upd_ne (by rintro rfl; exact hm h)]

/-! data facts grow with the heap -/
theorem rd_mono {H H' : Hp} (e : Ex H H') {a : Addr} {u : HO} (h : Rd H a u) : Rd H' a u :=
  h.elim (fun z => .inl (e _ _ z)) (fun ⟨o, z⟩ => .inr ⟨o, e _ _ z⟩)
theorem sql_mono {K : Fg} {H H' : Hp} (e : Ex H H') {a : Addr} {xs : List V} (h : SqL K H a xs) : SqL K H' a xs :=
  h.elim (fun z => .inl (rd_mono e z)) .inr
theorem sqt_mono {K : Fg} {H H' : Hp} (e : Ex H H') {a : Addr} {xs : List V} (h : SqT K H a xs) : SqT K H' a xs :=
  h.elim (fun z => .inl (rd_mono e z)) .inr
mutual
theorem dp_mono {K : Fg} {H H' : Hp} (e : Ex H H') : ∀ (d : PyData) {v : V}, Dp K H v d → Dp K H' v d
  | .none, _, h => by cases h; exact .non
  | .bool b, _, h => by cases h; exact .bl b
  | .int i, _, h => by cases h; exact .int i
  | .str x, _, h => by cases h; exact .str x
  | .list ds, _, h => by
    cases h with
    | lst h1 h2 => exact .lst (sql_mono e h1) (dps_mono e ds h2)
  | .tuple ds, _, h => by
    cases h with
    | tup h1 h2 => exact .tup (sqt_mono e h1) (dps_mono e ds h2)
  | .dict _, _, h => by cases h
theorem dps_mono {K : Fg} {H H' : Hp} (e : Ex H H') : ∀ (ds : List PyData) {vs : List V}, DpAll K H vs ds → DpAll K H' vs ds
  | [], _, h => by cases h; exact .nil
  | d :: ds, _, h => by
    cases h with
    | cons h1 h2 => exact .cons (dp_mono e d h1) (dps_mono e ds h2)
end
theorem dps_len {K : Fg} {H : Hp} : ∀ {vs : List V} {ds : List PyData}, DpAll K H vs ds → vs.length = ds.length
  | [], ds, h => by cases h; rfl
  | v :: vs, ds, h => by
    cases h with
    | cons h1 h2 => simp [dps_len h2]
theorem dps_get {K : Fg} {H : Hp} : ∀ {vs : List V} {ds : List PyData} {i : Nat} {d : PyData}, DpAll K H vs ds → ds[i]? = some d → ∃ v, vs[i]? = some v ∧ Dp K H v d
  | _, [], i, d, _, e => by simp at e
  | _, c :: ds, 0, d, h, e => by
    cases h with
    | cons h1 h2 =>
      simp at e
      subst e
      exact ⟨_, rfl, h1⟩
  | _, c :: ds, i + 1, d, h, e => by
    cases h with
    | cons h1 h2 =>
      obtain ⟨v, e1, e2⟩ := dps_get (i := i) h2 (by simpa using e)
      exact ⟨v, by simpa using e1, e2⟩
theorem dps_append {K : Fg} {H : Hp} : ∀ {vs ws : List V} {ds es : List PyData}, DpAll K H vs ds → DpAll K H ws es → DpAll K H (vs ++ ws) (ds ++ es)
  | [], _, ds, _, h, h' => by cases h; exact h'
  | v :: vs, _, ds, _, h, h' => by
    cases h with
    | cons h1 h2 => exact .cons h1 (dps_append h2 h')
theorem dps_take {K : Fg} {H : Hp} : ∀ (n : Nat) {vs : List V} {ds : List PyData}, DpAll K H vs ds → DpAll K H (vs.take n) (ds.take n)
  | 0, _, _, _ => by simp; exact .nil
  | n + 1, [], _, h => by cases h; simp; exact .nil
  | n + 1, v :: vs, _, h => by
    cases h with
    | cons h1 h2 => exact .cons h1 (dps_take n h2)
theorem dps_drop {K : Fg} {H : Hp} : ∀ (n : Nat) {vs : List V} {ds : List PyData}, DpAll K H vs ds → DpAll K H (vs.drop n) (ds.drop n)
  | 0, _, _, h => by simpa using h
  | n + 1, [], _, h => by cases h; simp; exact .nil
  | n + 1, v :: vs, _, h => by
    cases h with
    | cons h1 h2 => simpa using dps_drop n h2
theorem dps_rev {K : Fg} {H : Hp} : ∀ {vs : List V} {ds : List PyData}, DpAll K H vs ds → DpAll K H vs.reverse ds.reverse
  | [], _, h => by cases h; exact .nil
  | v :: vs, _, h => by
    cases h with
    | cons h1 h2 =>
      rw [List.reverse_cons, List.reverse_cons]
      exact dps_append (dps_rev h2) (.cons h1 .nil)
theorem dps_set {K : Fg} {H : Hp} {v : V} {d : PyData} (hd : Dp K H v d) : ∀ (n : Nat) {vs : List V} {ds : List PyData}, DpAll K H vs ds → DpAll K H (vs.set n v) (ds.set n d)
  | _, [], _, h => by cases h; simp; exact .nil
  | 0, w :: vs, _, h => by
    cases h with
    | cons h1 h2 => exact .cons hd h2
  | n + 1, w :: vs, _, h => by
    cases h with
    | cons h1 h2 => exact .cons h1 (dps_set hd n h2)
theorem dps_erase {K : Fg} {H : Hp} : ∀ (n : Nat) {vs : List V} {ds : List PyData}, DpAll K H vs ds → DpAll K H (vs.eraseIdx n) (ds.eraseIdx n)
  | _, [], _, h => by cases h; simp; exact .nil
  | 0, w :: vs, _, h => by
    cases h with
    | cons h1 h2 => exact h2
  | n + 1, w :: vs, _, h => by
    cases h with
    | cons h1 h2 => exact .cons h1 (dps_erase n h2)
theorem dps_dropLast {K : Fg} {H : Hp} {vs : List V} {ds : List PyData} (h : DpAll K H vs ds) : DpAll K H vs.dropLast ds.dropLast := by
  rw [List.dropLast_eq_take, List.dropLast_eq_take, dps_len h]
  exact dps_take _ h
theorem dps_ints {K : Fg} {H : Hp} : ∀ {vs : List V} {ns : List Int}, DpAll K H vs (ns.map PyData.int) → vs = ns.map V.int
  | _, [], h => by cases h; rfl
  | _, n :: ns, h => by
    cases h with
    | cons h1 h2 => cases h1; rw [dps_ints h2]; rfl
theorem dps_bools {K : Fg} {H : Hp} : ∀ {vs : List V} {bs : List Bool}, DpAll K H vs (bs.map PyData.bool) → vs = bs.map V.bl
  | _, [], h => by cases h; rfl
  | _, n :: ns, h => by
    cases h with
    | cons h1 h2 => cases h1; rw [dps_bools h2]; rfl
theorem dps_of_ints {K : Fg} {H : Hp} : ∀ (ns : List Int), DpAll K H (ns.map V.int) (ns.map PyData.int)
  | [] => .nil
  | n :: ns => .cons (.int n) (dps_of_ints ns)

/-! what the known data entail -/
def Fa (K : Fg) (D : DL) (Hi : Hp) : Prop := ∀ x ∈ D, Dp K Hi x.1 x.2
def Has (K : Fg) (D : DL) (v : V) (d : PyData) : Prop := ∀ Hi, Fa K D Hi → Dp K Hi v d
def HasL (K : Fg) (D : DL) (vs : List V) (ds : List PyData) : Prop := ∀ Hi, Fa K D Hi → DpAll K Hi vs ds
section
variable {K : Fg} {D : DL}
theorem Fa.mono {H H' : Hp} (e : Ex H H') (h : Fa K D H) : Fa K D H' := fun x hx => dp_mono e _ (h x hx)
theorem has_mem {v : V} {d : PyData} (h : (v, d) ∈ D) : Has K D v d := fun _ f => f _ h
theorem has_int {i : Int} : Has K D (.int i) (.int i) := fun _ _ => .int i
theorem has_bl {b : Bool} : Has K D (.bl b) (.bool b) := fun _ _ => .bl b
theorem has_non : Has K D .non .none := fun _ _ => .non
theorem has_str {x : Str} : Has K D (.str x) (.str x) := fun _ _ => .str x
theorem hasl_nil : HasL K D [] [] := fun _ _ => .nil
theorem hasl_cons {v : V} {d : PyData} {vs : List V} {ds : List PyData} (h : Has K D v d) (h' : HasL K D vs ds) : HasL K D (v :: vs) (d :: ds) := fun Hi f => .cons (h Hi f) (h' Hi f)
theorem hasl_ints {ns : List Int} : HasL K D (ns.map V.int) (ns.map PyData.int) := fun _ _ => dps_of_ints ns
theorem Fa.cons {v : V} {d : PyData} {Hi : Hp} (h : Fa K D Hi) (h' : Dp K Hi v d) : Fa K ((v, d) :: D) Hi := fun x hx => by
  rcases List.mem_cons.mp hx with e | hx
  · subst e; exact h'
  · exact h x hx
end

/-! what is owned: entries with a footprint -/
structure Ent where
  holds : List Addr → Hp → Hp → Prop
  mono : ∀ {fp : List Addr} {H Hi H' Hi' : Hp}, holds fp H Hi → (∀ a ∈ fp, H' a = H a) → Ex Hi Hi' → holds fp H' Hi'
  dom : ∀ {fp : List Addr} {H Hi : Hp}, holds fp H Hi → ∀ a ∈ fp, H a ≠ none
abbrev OL := List Ent

/-- one object whose content is known -/
structure Ct where
  is : HO → Hp → Prop
  mono : ∀ {o : HO} {Hi Hi' : Hp}, is o Hi → Ex Hi Hi' → is o Hi'
def oneE (p : Addr) (c : Ct) : Ent where
  holds := fun fp H Hi => fp = [p] ∧ ∃ o, H p = some o ∧ c.is o Hi
  mono := by
    rintro fp H Hi H' Hi' ⟨rfl, o, h1, h2⟩ k e
    exact ⟨rfl, o, (k p (List.mem_singleton.mpr rfl)).trans h1, c.mono h2 e⟩
  dom := by
    rintro fp H Hi ⟨rfl, o, h1, _⟩ a ha
    rw [List.mem_singleton.mp ha, h1]
    exact fun z => nomatch z
def lstC (K : Fg) (ds : List PyData) : Ct := ⟨fun o Hi => ∃ vs, o = .lst vs ∧ DpAll K Hi vs ds, fun ⟨vs, h1, h2⟩ e => ⟨vs, h1, dps_mono e _ h2⟩⟩
abbrev lstE (K : Fg) (p : Addr) (ds : List PyData) : Ent := oneE p (lstC K ds)
abbrev KD := List (Key × PyData)
def KdOk (K : Fg) (Hi : Hp) : List (Key × V) → KD → Prop := Paired fun x y => x.1 = y.1 ∧ Dp K Hi x.2 y.2
theorem kd_mono {K : Fg} {H H' : Hp} (e : Ex H H') {ws : List (Key × V)} {ks : KD} (h : KdOk K H ws ks) : KdOk K H' ws ks :=
  Paired.mapP h fun _ _ z => ⟨z.1, dp_mono e _ z.2⟩
def dicC (K : Fg) (ks : KD) : Ct := ⟨fun o Hi => ∃ ws, o = .dK ws ∧ KdOk K Hi ws ks, fun ⟨ws, h1, h2⟩ e => ⟨ws, h1, kd_mono e h2⟩⟩
abbrev dicE (K : Fg) (p : Addr) (ks : KD) : Ent := oneE p (dicC K ks)
def rawC (o : HO) : Ct := ⟨fun u _ => u = o, fun h _ => h⟩
abbrev rawE (p : Addr) (o : HO) : Ent := oneE p (rawC o)
/-- a fact of data, of nothing -/
def datE (K : Fg) (v : V) (d : PyData) : Ent where
  holds := fun fp _ Hi => fp = [] ∧ Dp K Hi v d
  mono := fun h _ e => ⟨h.1, dp_mono e _ h.2⟩
  dom := by
    rintro fp H Hi ⟨rfl, _⟩ a ha
    cases ha
def proE (p : Prop) : Ent where
  holds := fun fp _ _ => fp = [] ∧ p
  mono := fun h _ _ => h
  dom := by
    rintro fp H Hi ⟨rfl, _⟩ a ha
    cases ha
def exE {α : Type} (f : α → Ent) : Ent where
  holds := fun fp H Hi => ∃ x, (f x).holds fp H Hi
  mono := fun ⟨x, h⟩ k e => ⟨x, (f x).mono h k e⟩
  dom := fun ⟨x, h⟩ => (f x).dom h
/-- two side by side -/
def andE (e f : Ent) : Ent where
  holds := fun fp H Hi => ∃ fp1 fp2, fp = fp1 ++ fp2 ∧ e.holds fp1 H Hi ∧ f.holds fp2 H Hi
  mono := by
    rintro fp H Hi H' Hi' ⟨fp1, fp2, rfl, h1, h2⟩ k x
    exact ⟨fp1, fp2, rfl, e.mono h1 (fun a ha => k a (List.mem_append_left _ ha)) x, f.mono h2 (fun a ha => k a (List.mem_append_right _ ha)) x⟩
  dom := by
    rintro fp H Hi ⟨fp1, fp2, rfl, h1, h2⟩ a ha
    rcases List.mem_append.mp ha with z | z
    · exact e.dom h1 a z
    · exact f.dom h2 a z

def Hx (K : Fg) (fps : List (List Addr)) (D : DL) (O : OL) (H : Hp) : Prop :=
  fps.flatten.Nodup ∧ Paired (fun fp (e : Ent) => e.holds fp H (cut H fps.flatten)) fps O ∧ Fa K D (cut H fps.flatten)
def Hs (K : Fg) (D : DL) (O : OL) (H : Hp) : Prop := ∃ fps : List (List Addr), Hx K fps D O H

section
variable {K : Fg} {D D' : DL} {O O' : OL} {H H' : Hp} {e e' : Ent} {p : Addr}
theorem pair_mem {α β : Type} {R : α → β → Prop} : ∀ {l : List α} {m : List β} {x : α}, Paired R l m → x ∈ l → ∃ y, R x y
  | _, _, _, .nil, h => by cases h
  | _, _, x, .cons r t, h => by
    rcases List.mem_cons.mp h with z | z
    · subst z; exact ⟨_, r⟩
    · exact pair_mem t z
theorem own_dom {fps : List (List Addr)} {Hi : Hp} (h : Paired (fun fp (e : Ent) => e.holds fp H Hi) fps O) {a : Addr} (ha : a ∈ fps.flatten) : H a ≠ none := by
  obtain ⟨l, hl, hal⟩ := List.mem_flatten.mp ha
  obtain ⟨y, hy⟩ := pair_mem h hl
  exact y.dom hy a hal
theorem pair_mono {fps : List (List Addr)} {Hi Hi' : Hp} (h : Paired (fun fp (e : Ent) => e.holds fp H Hi) fps O) (k : ∀ a ∈ fps.flatten, H' a = H a) (x : Ex Hi Hi') : Paired (fun fp (e : Ent) => e.holds fp H' Hi') fps O := by
  induction h with
  | nil => exact .nil
  | @cons a b l m r t ih =>
    refine .cons (b.mono r (fun q hq => k q ?_) x) (ih fun q hq => k q ?_)
    · rw [List.flatten_cons]; exact List.mem_append_left _ hq
    · rw [List.flatten_cons]; exact List.mem_append_right _ hq
/-- the heap has grown -/
theorem Hs.grow (h : Hs K D O H) (x : Ex H H') : Hs K D O H' := by
  obtain ⟨fps, nd, pr, fa⟩ := h
  refine ⟨fps, nd, pair_mono pr (fun a ha => ?_) (cut_mono x), fa.mono (cut_mono x)⟩
  cases q : H a with
  | none => exact absurd q (own_dom pr ha)
  | some o => exact x a o q
theorem Hs.nof (h : Hs K D O H) (hp : H p = none) : ∃ fps : List (List Addr), p ∉ fps.flatten ∧ fps.flatten.Nodup ∧ Paired (fun fp (e : Ent) => e.holds fp H (cut H fps.flatten)) fps O ∧ Fa K D (cut H fps.flatten) := by
  obtain ⟨fps, nd, pr, fa⟩ := h
  exact ⟨fps, fun z => own_dom pr z hp, nd, pr, fa⟩
/-- data entailed -/
theorem Hs.more (h : Hs K D O H) (x : ∀ y ∈ D', Has K D y.1 y.2) : Hs K D' O H := by
  obtain ⟨fps, nd, pr, fa⟩ := h
  exact ⟨fps, nd, pr, fun y hy => x y hy _ fa⟩
theorem Hs.has {v : V} {d : PyData} (h : Hs K D O H) (x : Has K D v d) : Hs K ((v, d) :: D) O H := h.more fun y hy => by
  rcases List.mem_cons.mp hy with z | z
  · subst z; exact x
  · exact has_mem z
theorem Hs.dp {v : V} {d : PyData} (h : Hs K D O H) (x : Has K D v d) : Dp K H v d := by
  obtain ⟨fps, nd, pr, fa⟩ := h
  exact dp_mono cut_le _ (x _ fa)
theorem Hs.dps {vs : List V} {ds : List PyData} (h : Hs K D O H) (x : HasL K D vs ds) : DpAll K H vs ds := by
  obtain ⟨fps, nd, pr, fa⟩ := h
  exact dps_mono cut_le _ (x _ fa)
/-- a new object of data -/
theorem Hs.newT {vs : List V} {ds : List PyData} (h : Hs K D O H) (hp : H p = none) (x : HasL K D vs ds) : Hs K ((.ref p, .tuple ds) :: D) O (upd H p (.tup vs)) := by
  obtain ⟨fps, np, nd, pr, fa⟩ := h.nof hp
  have g : Ex H (upd H p (.tup vs)) := Ex.upd hp
  refine ⟨fps, nd, pair_mono pr (fun a ha => ?_) (cut_mono g), Fa.cons (fa.mono (cut_mono g)) (.tup (.inl (.inl ?_)) (dps_mono (cut_mono g) _ (x _ fa)))⟩
  · rw [upd_ne]; rintro rfl; exact np ha
  · rw [cut_out np, upd_same]
theorem Hs.newD {vs : List V} {ds : List PyData} (h : Hs K D O H) (hp : H p = none) (x : HasL K D vs ds) : Hs K ((.ref p, .list ds) :: D) O (upd H p (.lst vs)) := by
  obtain ⟨fps, np, nd, pr, fa⟩ := h.nof hp
  have g : Ex H (upd H p (.lst vs)) := Ex.upd hp
  refine ⟨fps, nd, pair_mono pr (fun a ha => ?_) (cut_mono g), Fa.cons (fa.mono (cut_mono g)) (.lst (.inl (.inl ?_)) (dps_mono (cut_mono g) _ (x _ fa)))⟩
  · rw [upd_ne]; rintro rfl; exact np ha
  · rw [cut_out np, upd_same]
/-- a new object that is owned -/
theorem Hs.newO {o : HO} {c : Ct} (h : Hs K D O H) (hp : H p = none) (x : ∀ Hi, Fa K D Hi → c.is o Hi) : Hs K D (oneE p c :: O) (upd H p o) := by
  obtain ⟨fps, np, nd, pr, fa⟩ := h.nof hp
  have ec : cut (upd H p o) (p :: fps.flatten) = cut H fps.flatten := by
    rw [cut_upd_in List.mem_cons_self]
    funext a
    by_cases q : a = p
    · subst q
      rw [cut_in List.mem_cons_self, cut_out np, hp]
    · by_cases z : a ∈ fps.flatten
      · rw [cut_in z, cut_in (List.mem_cons_of_mem _ z)]
      · rw [cut_out z, cut_out (fun y => (List.mem_cons.mp y).elim q z)]
  have ef : ([p] :: fps).flatten = p :: fps.flatten := by simp
  refine ⟨[p] :: fps, ?_, ?_, ?_⟩
  · rw [ef]; exact List.nodup_cons.mpr ⟨np, nd⟩
  · rw [ef, ec]
    refine .cons ⟨rfl, o, upd_same, x _ fa⟩ (pair_mono pr (fun a ha => ?_) (Ex.refl _))
    rw [upd_ne]; rintro rfl; exact np ha
  · rw [ef, ec]; exact fa
/-- the front object is read, written -/
theorem Hs.front {c : Ct} (h : Hs K D (oneE p c :: O) H) : ∃ o Hi, H p = some o ∧ c.is o Hi ∧ Fa K D Hi ∧ Ex Hi H ∧
    ∀ (o' : HO) (c' : Ct), c'.is o' Hi → Hs K D (oneE p c' :: O) (upd H p o') := by
  obtain ⟨fps, nd, pr, fa⟩ := h
  cases pr with
  | @cons fp _ l _ r t =>
    obtain ⟨rfl, o, h1, h2⟩ := r
    refine ⟨o, _, h1, h2, fa, cut_le, fun o' c' hx => ⟨[p] :: l, nd, ?_, ?_⟩⟩
    · have hm : p ∈ ([p] :: l).flatten := by simp
      rw [cut_upd_in hm]
      refine .cons ⟨rfl, o', upd_same, hx⟩ (pair_mono t (fun a ha => ?_) (Ex.refl _))
      rw [upd_ne]
      rintro rfl
      rw [List.flatten_cons] at nd
      exact (List.nodup_append.mp nd).2.2 a (List.mem_singleton.mpr rfl) a ha rfl
    · have hm : p ∈ ([p] :: l).flatten := by simp
      rw [cut_upd_in hm]; exact fa
theorem Hs.drop (h : Hs K D (e :: O) H) : Hs K D O H := by
  obtain ⟨fps, nd, pr, fa⟩ := h
  cases pr with
  | @cons fp _ l _ r t =>
    have g : Ex (cut H (fp :: l).flatten) (cut H l.flatten) := cut_less fun a ha => by rw [List.flatten_cons]; exact List.mem_append_right _ ha
    rw [List.flatten_cons] at nd
    exact ⟨l, (List.nodup_append.mp nd).2.1, pair_mono t (fun _ _ => rfl) g, fa.mono g⟩
/-- a list that is owned becomes data -/
theorem Hs.freeze {ds : List PyData} (h : Hs K D (lstE K p ds :: O) H) : Hs K ((.ref p, .list ds) :: D) O H := by
  obtain ⟨fps, nd, pr, fa⟩ := h
  cases pr with
  | @cons fp _ l _ r t =>
    obtain ⟨rfl, o, h1, vs, rfl, h2⟩ := r
    have g : Ex (cut H ([p] :: l).flatten) (cut H l.flatten) := cut_less fun a ha => by rw [List.flatten_cons]; exact List.mem_append_right _ ha
    rw [List.flatten_cons] at nd
    refine ⟨l, (List.nodup_append.mp nd).2.1, pair_mono t (fun _ _ => rfl) g, Fa.cons (fa.mono g) (.lst (.inl (.inl ?_)) (dps_mono g _ h2))⟩
    rw [cut_out]
    · exact h1
    · intro z
      exact (List.nodup_append.mp nd).2.2 p (List.mem_singleton.mpr rfl) p z rfl
theorem perm_flatten {l l' : List (List Addr)} (h : l.Perm l') : l.flatten.Perm l'.flatten := by
  induction h with
  | nil => exact List.Perm.refl _
  | cons x _ ih => rw [List.flatten_cons, List.flatten_cons]; exact List.Perm.append_left x ih
  | swap x y l =>
    rw [List.flatten_cons, List.flatten_cons, List.flatten_cons, List.flatten_cons, ← List.append_assoc, ← List.append_assoc]
    exact List.Perm.append_right _ List.perm_append_comm
  | trans _ _ h1 h2 => exact h1.trans h2
theorem pair_perm {α β : Type} {R : α → β → Prop} {m m' : List β} (h : m.Perm m') : ∀ {l : List α}, Paired R l m → ∃ l', l.Perm l' ∧ Paired R l' m' := by
  induction h with
  | nil => intro l r; exact ⟨l, List.Perm.refl _, r⟩
  | cons x _ ih =>
    intro l r
    cases r with
    | cons r t =>
      obtain ⟨l', p1, p2⟩ := ih t
      exact ⟨_, List.Perm.cons _ p1, .cons r p2⟩
  | swap x y m =>
    intro l r
    cases r with
    | cons r t =>
      cases t with
      | cons r' t => exact ⟨_, List.Perm.swap _ _ _, .cons r' (.cons r t)⟩
  | trans _ _ h1 h2 =>
    intro l r
    obtain ⟨l1, p1, q1⟩ := h1 r
    obtain ⟨l2, p2, q2⟩ := h2 q1
    exact ⟨l2, p1.trans p2, q2⟩
theorem Hs.perm (x : O.Perm O') (h : Hs K D O H) : Hs K D O' H := by
  obtain ⟨fps, nd, pr, fa⟩ := h
  obtain ⟨l', p1, p2⟩ := pair_perm x pr
  have pf := perm_flatten p1
  have ec : cut H fps.flatten = cut H l'.flatten := cut_same fun a => pf.mem_iff
  rw [ec] at p2 fa
  exact ⟨l', pf.nodup_iff.mp nd, p2, fa⟩
theorem Hs.split {f : Ent} (h : Hs K D (andE e f :: O) H) : Hs K D (e :: f :: O) H := by
  obtain ⟨fps, nd, pr, fa⟩ := h
  cases pr with
  | @cons fp _ l _ r t =>
    obtain ⟨f1, f2, rfl, h1, h2⟩ := r
    have ef : ((f1 ++ f2) :: l).flatten = (f1 :: f2 :: l).flatten := by simp
    rw [ef] at nd h1 h2 t fa
    exact ⟨f1 :: f2 :: l, nd, .cons h1 (.cons h2 t), fa⟩
theorem Hs.join {f : Ent} (h : Hs K D (e :: f :: O) H) : Hs K D (andE e f :: O) H := by
  obtain ⟨fps, nd, pr, fa⟩ := h
  cases pr with
  | @cons f1 _ l _ h1 t =>
    cases t with
    | @cons f2 _ l _ h2 t =>
      have ef : (f1 :: f2 :: l).flatten = ((f1 ++ f2) :: l).flatten := by simp
      rw [ef] at nd h1 h2 t fa
      exact ⟨(f1 ++ f2) :: l, nd, .cons ⟨f1, f2, rfl, h1, h2⟩ t, fa⟩
theorem Hs.open {α : Type} {f : α → Ent} (h : Hs K D (exE f :: O) H) : ∃ x, Hs K D (f x :: O) H := by
  obtain ⟨fps, nd, pr, fa⟩ := h
  cases pr with
  | cons r t =>
    obtain ⟨x, r⟩ := r
    exact ⟨x, _, nd, .cons r t, fa⟩
theorem Hs.close {α : Type} {f : α → Ent} (x : α) (h : Hs K D (f x :: O) H) : Hs K D (exE f :: O) H := by
  obtain ⟨fps, nd, pr, fa⟩ := h
  cases pr with
  | cons r t => exact ⟨_, nd, .cons ⟨x, r⟩ t, fa⟩
theorem Hs.dat {v : V} {d : PyData} (h : Hs K D (datE K v d :: O) H) : Hs K ((v, d) :: D) O H := by
  obtain ⟨fps, nd, pr, fa⟩ := h
  cases pr with
  | @cons fp _ l _ r t =>
    obtain ⟨rfl, r⟩ := r
    exact ⟨l, nd, t, Fa.cons fa r⟩
theorem Hs.undat {v : V} {d : PyData} (x : Has K D v d) (h : Hs K D O H) : Hs K D (datE K v d :: O) H := by
  obtain ⟨fps, nd, pr, fa⟩ := h
  exact ⟨[] :: fps, nd, .cons ⟨rfl, x _ fa⟩ pr, fa⟩
theorem Hs.pro {q : Prop} (h : Hs K D (proE q :: O) H) : q ∧ Hs K D O H := by
  obtain ⟨fps, nd, pr, fa⟩ := h
  cases pr with
  | @cons fp _ l _ r t =>
    obtain ⟨rfl, r⟩ := r
    exact ⟨r, l, nd, t, fa⟩
theorem Hs.unpro {q : Prop} (x : q) (h : Hs K D O H) : Hs K D (proE q :: O) H := by
  obtain ⟨fps, nd, pr, fa⟩ := h
  exact ⟨[] :: fps, nd, .cons ⟨rfl, x⟩ pr, fa⟩
end
end Wp

namespace Wp
open PySem L2

/-! ### what code does to the ledger -/
def WE (K : Fg) (te : TE) (σ : L2.St) (D : DL) (O : OL) (P : V → DL → OL → Prop) : Prop :=
  ∀ H, Hs K D O H → ∀ Q : VK, (∀ v D' O' H', P v D' O' → Hs K D' O' H' → Q v H') → te σ H Q
def WT (K : Fg) (tt : TT) (σ : L2.St) (D : DL) (O : OL) (P : Bool → DL → OL → Prop) : Prop :=
  ∀ H, Hs K D O H → ∀ Q : Bool → Hp → Prop, (∀ b D' O' H', P b D' O' → Hs K D' O' H' → Q b H') → tt σ H Q
def WA (K : Fg) (ta : TA) (σ : L2.St) (D : DL) (O : OL) (P : List V → DL → OL → Prop) : Prop :=
  ∀ H, Hs K D O H → ∀ Q : List V → Hp → Prop, (∀ vs D' O' H', P vs D' O' → Hs K D' O' H' → Q vs H') → ta σ H Q
def WO (K : Fg) (to : TO) (σ : L2.St) (D : DL) (O : OL) (P : Option Int → DL → OL → Prop) : Prop :=
  ∀ H, Hs K D O H → ∀ Q : Option Int → Hp → Prop, (∀ o D' O' H', P o D' O' → Hs K D' O' H' → Q o H') → to σ H Q
def WR (K : Fg) (r : R2) (x y : V) (D : DL) (O : OL) (P : V → DL → OL → Prop) : Prop :=
  ∀ H, Hs K D O H → ∀ Q : VK, (∀ v D' O' H', P v D' O' → Hs K D' O' H' → Q v H') → r x y H Q
def WU (K : Fg) (r : V → Hp → VK → Prop) (x : V) (D : DL) (O : OL) (P : V → DL → OL → Prop) : Prop :=
  ∀ H, Hs K D O H → ∀ Q : VK, (∀ v D' O' H', P v D' O' → Hs K D' O' H' → Q v H') → r x H Q
def WC (K : Fg) (r : List V → Hp → VK → Prop) (vs : List V) (D : DL) (O : OL) (P : V → DL → OL → Prop) : Prop :=
  ∀ H, Hs K D O H → ∀ Q : VK, (∀ v D' O' H', P v D' O' → Hs K D' O' H' → Q v H') → r vs H Q
def WM (K : Fg) (r : V → List V → Hp → VK → Prop) (x : V) (vs : List V) (D : DL) (O : OL) (P : V → DL → OL → Prop) : Prop :=
  ∀ H, Hs K D O H → ∀ Q : VK, (∀ v D' O' H', P v D' O' → Hs K D' O' H' → Q v H') → r x vs H Q
def WSl (K : Fg) (r : V → Option Int → Option Int → Hp → VK → Prop) (x : V) (lo hi : Option Int) (D : DL) (O : OL) (P : V → DL → OL → Prop) : Prop :=
  ∀ H, Hs K D O H → ∀ Q : VK, (∀ v D' O' H', P v D' O' → Hs K D' O' H' → Q v H') → r x lo hi H Q
def WG (K : Fg) (g : TG) (v : V) (σ : L2.St) (D : DL) (O : OL) (P : L2.St → DL → OL → Prop) : Prop :=
  ∀ H, Hs K D O H → ∀ Q : L2.St → Hp → Prop, (∀ σ' D' O' H', P σ' D' O' → Hs K D' O' H' → Q σ' H') → g v σ H Q
def WGs (K : Fg) (g : TGs) (vs : List V) (σ : L2.St) (D : DL) (O : OL) (P : L2.St → DL → OL → Prop) : Prop :=
  ∀ H, Hs K D O H → ∀ Q : L2.St → Hp → Prop, (∀ σ' D' O' H', P σ' D' O' → Hs K D' O' H' → Q σ' H') → g vs σ H Q
structure Po where
  nx : L2.St → DL → OL → Prop
  rt : V → DL → OL → Prop := fun _ _ _ => False
  bk : L2.St → DL → OL → Prop := fun _ _ _ => False
  ct : L2.St → DL → OL → Prop := fun _ _ _ => False
def WS (K : Fg) (ts : TS) (σ : L2.St) (D : DL) (O : OL) (P : Po) : Prop :=
  ∀ H, Hs K D O H → ∀ E : Ends, (∀ σ' D' O' H', P.nx σ' D' O' → Hs K D' O' H' → E.nx σ' H') → (∀ v D' O' H', P.rt v D' O' → Hs K D' O' H' → E.rt v H') →
    (∀ σ' D' O' H', P.bk σ' D' O' → Hs K D' O' H' → E.bk σ' H') → (∀ σ' D' O' H', P.ct σ' D' O' → Hs K D' O' H' → E.ct σ' H') → ts E σ H

/-- one ledger gives another -/
def Imp (K : Fg) (D : DL) (O : OL) (D' : DL) (O' : OL) : Prop := ∀ H, Hs K D O H → Hs K D' O' H
section
variable {K : Fg} {D D' D2 : DL} {O O' O2 : OL} {σ : L2.St} {e : Ent} {p : Addr}
theorem Imp.refl : Imp K D O D O := fun _ h => h
theorem Imp.trans (x : Imp K D O D' O') (y : Imp K D' O' D2 O2) : Imp K D O D2 O2 := fun H h => y H (x H h)
theorem imp_perm (x : O.Perm O') : Imp K D O D O' := fun _ h => h.perm x
theorem imp_drop : Imp K D (e :: O) D O := fun _ h => h.drop
theorem imp_frz {ds : List PyData} : Imp K D (lstE K p ds :: O) ((.ref p, .list ds) :: D) O := fun _ h => h.freeze
theorem imp_more (x : ∀ y ∈ D', Has K D y.1 y.2) : Imp K D O D' O := fun _ h => h.more x
theorem imp_sub (x : ∀ y ∈ D', y ∈ D) : Imp K D O D' O := imp_more fun y hy => has_mem (x y hy)
theorem imp_close {α : Type} {f : α → Ent} (x : α) : Imp K D (f x :: O) D (exE f :: O) := fun _ h => h.close x
theorem imp_join {f : Ent} : Imp K D (e :: f :: O) D (andE e f :: O) := fun _ h => h.join
theorem imp_split {f : Ent} : Imp K D (andE e f :: O) D (e :: f :: O) := fun _ h => h.split
theorem imp_has {v : V} {d : PyData} (x : Has K D v d) : Imp K D O ((v, d) :: D) O := fun _ h => h.has x
/-- the i-th entry goes to the front -/
theorem perm_ix : ∀ {O : OL} {i : Nat} {e : Ent}, O[i]? = some e → O.Perm (e :: O.eraseIdx i)
  | [], i, e, h => by simp at h
  | f :: O, 0, e, h => by
    simp at h
    subst h
    exact List.Perm.refl _
  | f :: O, i + 1, e, h => by
    have := perm_ix (O := O) (i := i) (e := e) (by simpa using h)
    rw [List.eraseIdx_cons_succ]
    exact (List.Perm.cons f this).trans (List.Perm.swap e f _)
theorem perm_set : ∀ {O : OL} {i : Nat} {e : Ent}, i < O.length → (e :: O.eraseIdx i).Perm (O.set i e)
  | [], i, e, h => by simp at h
  | f :: O, 0, e, h => List.Perm.refl _
  | f :: O, i + 1, e, h => by
    have := perm_set (O := O) (i := i) (e := e) (by simpa using h)
    rw [List.eraseIdx_cons_succ, List.set_cons_succ]
    exact (List.Perm.swap f e _).trans (List.Perm.cons f this)
theorem ix_lt {O : OL} {i : Nat} {e : Ent} (h : O[i]? = some e) : i < O.length := (List.getElem?_eq_some_iff.mp h).1
theorem imp_front {i : Nat} (h : O[i]? = some e) : Imp K D O D (e :: O.eraseIdx i) := imp_perm (perm_ix h)
theorem imp_back {i : Nat} {e' : Ent} (h : O[i]? = some e') : Imp K D (e :: O.eraseIdx i) D (O.set i e) := imp_perm (perm_set (ix_lt h))
theorem imp_frzi {ds : List PyData} {i : Nat} (h : O[i]? = some (lstE K p ds)) : Imp K D O ((.ref p, .list ds) :: D) (O.eraseIdx i) := (imp_front h).trans imp_frz
theorem imp_dropi {i : Nat} (h : O[i]? = some e) : Imp K D O D (O.eraseIdx i) := (imp_front h).trans imp_drop
/-- the i-th object is read, written -/
theorem Hs.at {i : Nat} {c : Ct} {H : Hp} (h : Hs K D O H) (hi : O[i]? = some (oneE p c)) : ∃ o Hi, H p = some o ∧ c.is o Hi ∧ Fa K D Hi ∧ Ex Hi H ∧
    ∀ (o' : HO) (c' : Ct), c'.is o' Hi → Hs K D (O.set i (oneE p c')) (upd H p o') := by
  obtain ⟨o, Hi, h1, h2, h3, h4, h5⟩ := Hs.front (imp_front hi H h)
  exact ⟨o, Hi, h1, h2, h3, h4, fun o' c' hx => imp_back hi _ (h5 o' c' hx)⟩

theorem we_imp {te : TE} {P : V → DL → OL → Prop} (x : Imp K D O D' O') (h : WE K te σ D' O' P) : WE K te σ D O P := fun H hs => h H (x H hs)
theorem ws_imp {ts : TS} {P : Po} (x : Imp K D O D' O') (h : WS K ts σ D' O' P) : WS K ts σ D O P := fun H hs => h H (x H hs)
theorem wt_imp {tt : TT} {P : Bool → DL → OL → Prop} (x : Imp K D O D' O') (h : WT K tt σ D' O' P) : WT K tt σ D O P := fun H hs => h H (x H hs)
theorem wa_imp {ta : TA} {P : List V → DL → OL → Prop} (x : Imp K D O D' O') (h : WA K ta σ D' O' P) : WA K ta σ D O P := fun H hs => h H (x H hs)
theorem wr_imp {r : R2} {x y : V} {P : V → DL → OL → Prop} (i : Imp K D O D' O') (h : WR K r x y D' O' P) : WR K r x y D O P := fun H hs => h H (i H hs)
theorem wc_imp {r : List V → Hp → VK → Prop} {vs : List V} {P : V → DL → OL → Prop} (i : Imp K D O D' O') (h : WC K r vs D' O' P) : WC K r vs D O P := fun H hs => h H (i H hs)
/-- an entry that is there for some x -/
theorem ws_open {α : Type} {f : α → Ent} {ts : TS} {P : Po} (h : ∀ x, WS K ts σ D (f x :: O) P) : WS K ts σ D (exE f :: O) P := fun H hs => by
  obtain ⟨x, hx⟩ := hs.open
  exact h x H hx
theorem ws_pro {q : Prop} {ts : TS} {P : Po} (h : q → WS K ts σ D O P) : WS K ts σ D (proE q :: O) P := fun H hs => by
  obtain ⟨x, hx⟩ := hs.pro
  exact h x H hx
theorem ws_dat {v : V} {d : PyData} {ts : TS} {P : Po} (h : WS K ts σ ((v, d) :: D) O P) : WS K ts σ D (datE K v d :: O) P := fun H hs => h H hs.dat

/-! ### expressions -/
variable {ta tb te : TE} {r : R2} {P : V → DL → OL → Prop} {x y v : V}
theorem we_var {i : Nat} (h : σ[i]? = some (some v)) (k : P v D O) : WE K (tVar i) σ D O P := fun H hs Q q => ⟨v, h, q v D O H k hs⟩
theorem we_c (k : P v D O) : WE K (tC v) σ D O P := fun H hs Q q => q v D O H k hs
theorem we_op (h : WE K ta σ D O fun x D1 O1 => WE K tb σ D1 O1 fun y D2 O2 => WR K r x y D2 O2 P) : WE K (tOp r ta tb) σ D O P := fun H hs Q q =>
  h H hs _ fun _ _ _ H1 h1 s1 => h1 H1 s1 _ fun _ _ _ H2 h2 s2 => h2 H2 s2 Q q
theorem we_un {r : V → Hp → VK → Prop} (h : WE K ta σ D O fun x D1 O1 => WU K r x D1 O1 P) : WE K (tUn r ta) σ D O P := fun H hs Q q =>
  h H hs _ fun _ _ _ H1 h1 s1 => h1 H1 s1 Q q
theorem we_cb {r : List V → Hp → VK → Prop} {ta : TA} (h : WA K ta σ D O fun vs D1 O1 => WC K r vs D1 O1 P) : WE K (tCB r ta) σ D O P := fun H hs Q q =>
  h H hs _ fun _ _ _ H1 h1 s1 => h1 H1 s1 Q q
theorem wa_nil {P : List V → DL → OL → Prop} (k : P [] D O) : WA K tNil σ D O P := fun H hs Q q => q [] D O H k hs
theorem wa_cons {tr : TA} {P : List V → DL → OL → Prop} (h : WE K ta σ D O fun x D1 O1 => WA K tr σ D1 O1 fun vs D2 O2 => P (x :: vs) D2 O2) : WA K (tCons ta tr) σ D O P := fun H hs Q q =>
  h H hs _ fun _ _ _ H1 h1 s1 => h1 H1 s1 _ fun _ D2 O2 H2 h2 s2 => q _ D2 O2 H2 h2 s2
theorem wo_none {P : Option Int → DL → OL → Prop} (k : P none D O) : WO K tNoPart σ D O P := fun H hs Q q => q none D O H k hs
theorem wo_some {P : Option Int → DL → OL → Prop} (h : WE K te σ D O fun v D1 O1 => ∃ i, v = .int i ∧ P (some i) D1 O1) : WO K (tPart te) σ D O P := fun H hs Q q =>
  h H hs _ fun v D1 O1 H1 ⟨i, e, k⟩ s1 => ⟨i, e, q _ D1 O1 H1 k s1⟩
theorem we_sl {r : V → Option Int → Option Int → Hp → VK → Prop} {tl th : TO}
    (h : WE K te σ D O fun x D1 O1 => WO K tl σ D1 O1 fun lo D2 O2 => WO K th σ D2 O2 fun hi D3 O3 => WSl K r x lo hi D3 O3 P) : WE K (tSl r te tl th) σ D O P := fun H hs Q q =>
  h H hs _ fun _ _ _ H1 h1 s1 => h1 H1 s1 _ fun _ _ _ H2 h2 s2 => h2 H2 s2 _ fun _ _ _ H3 h3 s3 => h3 H3 s3 Q q
theorem we_if {t : TT} (h : WT K t σ D O fun b D1 O1 => if b = true then WE K ta σ D1 O1 P else WE K tb σ D1 O1 P) : WE K (tIf t ta tb) σ D O P := fun H hs Q q =>
  h H hs _ fun b _ _ H1 h1 s1 => by
    cases b with
    | true => exact h1 H1 s1 Q q
    | false => exact h1 H1 s1 Q q
/-- a tuple, a list of written items -/
theorem we_tup {ta : TA} (h : WA K ta σ D O fun vs D1 O1 => vs.length ≤ 1000000 ∧ ∃ ds, HasL K D1 vs ds ∧ ∀ p, P (.ref p) ((.ref p, .tuple ds) :: D1) O1) : WE K (tTup ta) σ D O P := fun H hs Q q =>
  h H hs _ fun vs D1 O1 H1 ⟨hl, ds, hd, k⟩ s1 => ⟨Nat.le_trans hl (by decide), fun p hp => q _ _ _ _ (k p) (s1.newT hp hd)⟩
theorem we_lst {ta : TA} (h : WA K ta σ D O fun vs D1 O1 => vs.length ≤ 1000000 ∧ ∃ ds, HasL K D1 vs ds ∧ ∀ p, P (.ref p) ((.ref p, .list ds) :: D1) O1) : WE K (tLst ta) σ D O P := fun H hs Q q =>
  h H hs _ fun vs D1 O1 H1 ⟨hl, ds, hd, k⟩ s1 => ⟨Nat.le_trans hl (by decide), fun p hp => q _ _ _ _ (k p) (s1.newD hp hd)⟩
theorem Hs.newL {vs : List V} {ds : List PyData} {H : Hp} (h : Hs K D O H) (hp : H p = none) (x : HasL K D vs ds) : Hs K D (lstE K p ds :: O) (upd H p (.lst vs)) :=
  h.newO hp fun Hi f => ⟨vs, rfl, x Hi f⟩
theorem we_lstO {ta : TA} (h : WA K ta σ D O fun vs D1 O1 => vs.length ≤ 1000000 ∧ ∃ ds, HasL K D1 vs ds ∧ ∀ p, P (.ref p) D1 (lstE K p ds :: O1)) : WE K (tLst ta) σ D O P := fun H hs Q q =>
  h H hs _ fun vs D1 O1 H1 ⟨hl, ds, hd, k⟩ s1 => ⟨Nat.le_trans hl (by decide), fun p hp => q _ _ _ _ (k p) (s1.newL hp hd)⟩
end

/-! ### operators -/
section
variable {K : Fg} {D : DL} {O : OL} {P : V → DL → OL → Prop} {i j : Int} {x y : V}
theorem wr_I0 {g : Int → Int → V} (k : P (g i j) D O) : WR K (rI0 g) (.int i) (.int j) D O P := fun H hs Q q => ⟨i, j, rfl, rfl, q _ D O H k hs⟩
theorem wr_I {C : Int → Int → Prop} {g : Int → Int → V} (c : C i j) (k : P (g i j) D O) : WR K (rI C g) (.int i) (.int j) D O P := fun H hs Q q => ⟨i, j, rfl, rfl, c, q _ D O H k hs⟩
theorem wu_I {g : Int → V} (k : P (g i) D O) : WU K (rU g) (.int i) D O P := fun H hs Q q => ⟨i, rfl, q _ D O H k hs⟩
def rOr (r s : R2) : R2 := fun x y H Q => r x y H Q ∨ s x y H Q
theorem op_or2 {X : Cx} {f : Value → Value → Sem Value} {r s : R2} (h1 : OpR X f r) (h2 : OpR X f s) : OpR X f (rOr r s) := by
  intro pins st σ H x y v u Q I rx ry h
  rcases h with h | h
  · exact h1 pins st σ H x y v u Q I rx ry h
  · exact h2 pins st σ H x y v u Q I rx ry h
theorem wr_l {r s : R2} (h : WR K r x y D O P) : WR K (rOr r s) x y D O P := fun H hs Q q => .inl (h H hs Q q)
theorem wr_r {r s : R2} (h : WR K s x y D O P) : WR K (rOr r s) x y D O P := fun H hs Q q => .inr (h H hs Q q)
def rcOr (r s : List V → Hp → VK → Prop) : List V → Hp → VK → Prop := fun x H Q => r x H Q ∨ s x H Q
theorem cr_or2 {X : Cx} {f : Value} {r s : List V → Hp → VK → Prop} (h1 : CallR X f r) (h2 : CallR X f s) : CallR X f (rcOr r s) := by
  intro pins st σ H vs us Q I r h
  rcases h with h | h
  · exact h1 pins st σ H vs us Q I r h
  · exact h2 pins st σ H vs us Q I r h
theorem wc_l {r s : List V → Hp → VK → Prop} {vs : List V} (h : WC K r vs D O P) : WC K (rcOr r s) vs D O P := fun H hs Q q => .inl (h H hs Q q)
theorem wc_r {r s : List V → Hp → VK → Prop} {vs : List V} (h : WC K s vs D O P) : WC K (rcOr r s) vs D O P := fun H hs Q q => .inr (h H hs Q q)

/-- a list, a tuple as it is read -/
def RdL (K : Fg) (D : DL) (O : OL) (v : V) (ds : List PyData) : Prop := ∀ fps H, Hx K fps D O H → ∃ a vs, v = .ref a ∧ SqL K H a vs ∧ DpAll K (cut H fps.flatten) vs ds
def RdT (K : Fg) (D : DL) (O : OL) (v : V) (ds : List PyData) : Prop := ∀ fps H, Hx K fps D O H → ∃ a vs, v = .ref a ∧ SqT K H a vs ∧ DpAll K (cut H fps.flatten) vs ds
theorem fa_zip {Hi : Hp} : ∀ {vs : List V} {ds : List PyData}, DpAll K Hi vs ds → Fa K D Hi → Fa K (vs.zip ds ++ D) Hi
  | [], _, _, f => by simpa using f
  | v :: vs, ds, h, f => by
    cases h with
    | cons h1 h2 =>
      rw [List.zip_cons_cons, List.cons_append]
      exact Fa.cons (fa_zip h2 f) h1
theorem RdL.get {v : V} {ds : List PyData} (h : RdL K D O v ds) {H : Hp} (hs : Hs K D O H) : ∃ a vs, v = .ref a ∧ SqL K H a vs ∧ vs.length = ds.length ∧ Hs K (vs.zip ds ++ D) O H := by
  obtain ⟨fps, nd, pr, fa⟩ := hs
  obtain ⟨a, vs, e, h1, h2⟩ := h fps H ⟨nd, pr, fa⟩
  exact ⟨a, vs, e, h1, dps_len h2, fps, nd, pr, fa_zip h2 fa⟩
theorem RdT.get {v : V} {ds : List PyData} (h : RdT K D O v ds) {H : Hp} (hs : Hs K D O H) : ∃ a vs, v = .ref a ∧ SqT K H a vs ∧ vs.length = ds.length ∧ Hs K (vs.zip ds ++ D) O H := by
  obtain ⟨fps, nd, pr, fa⟩ := hs
  obtain ⟨a, vs, e, h1, h2⟩ := h fps H ⟨nd, pr, fa⟩
  exact ⟨a, vs, e, h1, dps_len h2, fps, nd, pr, fa_zip h2 fa⟩
theorem rdl_dat {v : V} {ds : List PyData} (h : Has K D v (.list ds)) : RdL K D O v ds := by
  rintro fps H ⟨nd, pr, fa⟩
  have q := h _ fa
  cases q with
  | lst h1 h2 => exact ⟨_, _, rfl, sql_mono cut_le h1, h2⟩
theorem rdt_dat {v : V} {ds : List PyData} (h : Has K D v (.tuple ds)) : RdT K D O v ds := by
  rintro fps H ⟨nd, pr, fa⟩
  have q := h _ fa
  cases q with
  | tup h1 h2 => exact ⟨_, _, rfl, sqt_mono cut_le h1, h2⟩
theorem pair_at {α β : Type} {R : α → β → Prop} : ∀ {l : List α} {m : List β} {n : Nat} {y : β}, Paired R l m → m[n]? = some y → ∃ x, l[n]? = some x ∧ R x y
  | _, _, _, _, .nil, h => by simp at h
  | _, _, 0, _, .cons r _, h => by
    simp at h
    subst h
    exact ⟨_, rfl, r⟩
  | _, _, n + 1, y, .cons _ t, h => by
    obtain ⟨x, h1, h2⟩ := pair_at (n := n) t (by simpa using h)
    exact ⟨x, by simpa using h1, h2⟩
theorem rdl_own {p : Addr} {ds : List PyData} {n : Nat} (h : O[n]? = some (lstE K p ds)) : RdL K D O (.ref p) ds := by
  rintro fps H ⟨nd, pr, fa⟩
  obtain ⟨fp, _, rfl, o, h1, vs, rfl, h2⟩ := pair_at pr h
  exact ⟨p, vs, rfl, SqL.of h1, h2⟩
theorem zip_mem {vs : List V} {ds : List PyData} {n : Nat} {v : V} {d : PyData} (h : vs[n]? = some v) (h' : ds[n]? = some d) : (v, d) ∈ vs.zip ds := by
  apply List.mem_of_getElem? (i := n)
  rw [List.getElem?_zip_eq_some]
  exact ⟨h, h'⟩
/-- the n-th item -/
theorem RdL.item {v : V} {ds : List PyData} (h : RdL K D O v ds) {H : Hp} (hs : Hs K D O H) {n : Nat} {d : PyData} (hd : ds[n]? = some d) : ∃ a vs x, v = .ref a ∧ SqL K H a vs ∧ vs.length = ds.length ∧ vs[n]? = some x ∧ Hs K ((x, d) :: D) O H := by
  obtain ⟨a, vs, e, h1, hl, h2⟩ := h.get hs
  have hn : n < vs.length := by
    have := (List.getElem?_eq_some_iff.mp hd).1
    omega
  refine ⟨a, vs, vs[n], e, h1, hl, List.getElem?_eq_getElem hn, h2.more fun y hy => ?_⟩
  rcases List.mem_cons.mp hy with z | z
  · subst z
    exact has_mem (List.mem_append_left _ (zip_mem (List.getElem?_eq_getElem hn) hd))
  · exact has_mem (List.mem_append_right _ z)
theorem RdT.item {v : V} {ds : List PyData} (h : RdT K D O v ds) {H : Hp} (hs : Hs K D O H) {n : Nat} {d : PyData} (hd : ds[n]? = some d) : ∃ a vs x, v = .ref a ∧ SqT K H a vs ∧ vs.length = ds.length ∧ vs[n]? = some x ∧ Hs K ((x, d) :: D) O H := by
  obtain ⟨a, vs, e, h1, hl, h2⟩ := h.get hs
  have hn : n < vs.length := by
    have := (List.getElem?_eq_some_iff.mp hd).1
    omega
  refine ⟨a, vs, vs[n], e, h1, hl, List.getElem?_eq_getElem hn, h2.more fun y hy => ?_⟩
  rcases List.mem_cons.mp hy with z | z
  · subst z
    exact has_mem (List.mem_append_left _ (zip_mem (List.getElem?_eq_getElem hn) hd))
  · exact has_mem (List.mem_append_right _ z)
/-- a datum comes: a scalar as it is, else a value that stands for it -/
def Gv (d : PyData) (D : DL) (k : V → DL → Prop) : Prop := match d with
  | .int n => k (.int n) D
  | .bool b => k (.bl b) D
  | .none => k .non D
  | .str s => k (.str s) D
  | d => ∀ v, k v ((v, d) :: D)
theorem Gv.use' {d : PyData} {k : V → DL → Prop} (g : Gv d D k) {H : Hp} {v : V} (hd : Dp K H v d) : ∃ D', k v D' ∧ ∀ y ∈ D', y = (v, d) ∨ y ∈ D := by
  cases d with
  | int n => cases hd; exact ⟨D, g, fun y h => .inr h⟩
  | bool b => cases hd; exact ⟨D, g, fun y h => .inr h⟩
  | none => cases hd; exact ⟨D, g, fun y h => .inr h⟩
  | str s => cases hd; exact ⟨D, g, fun y h => .inr h⟩
  | list l => exact ⟨_, g v, fun y h => (List.mem_cons.mp h).elim .inl .inr⟩
  | tuple l => exact ⟨_, g v, fun y h => (List.mem_cons.mp h).elim .inl .inr⟩
  | dict l => exact ⟨_, g v, fun y h => (List.mem_cons.mp h).elim .inl .inr⟩
theorem Gv.use {d : PyData} {k : V → DL → Prop} (g : Gv d D k) {H : Hp} {v : V} (hs : Hs K ((v, d) :: D) O H) : ∃ D', k v D' ∧ Hs K D' O H := by
  obtain ⟨D', k1, h1⟩ := g.use' (hs.dp (has_mem List.mem_cons_self))
  refine ⟨D', k1, hs.more fun y hy => ?_⟩
  rcases h1 y hy with z | z
  · subst z; exact has_mem List.mem_cons_self
  · exact has_mem (List.mem_cons_of_mem _ z)
/-- xs[i] -/
theorem ixN_ok {n : Nat} {i : Int} {j : Nat} (h : ixN n i = some j) : j < n := by
  unfold ixN at h
  split at h
  · split at h
    · cases h; omega
    · cases h
  · split at h
    · cases h; omega
    · cases h
theorem wr_ixL {v : V} {ds : List PyData} {n : Nat} {d : PyData} (h : RdL K D O v ds) (hi : ixN ds.length i = some n) (hd : ds[n]? = some d) (k : Gv d D fun v D' => P v D' O) : WR K (rIxL K) v (.int i) D O P := fun H hs Q q => by
  obtain ⟨a, vs, x, e, h1, hl, hx, h2⟩ := h.item hs hd
  obtain ⟨D', k1, h3⟩ := k.use h2
  refine ⟨a, vs, i, x, e, rfl, h1, ?_, q x D' O H k1 h3⟩
  unfold atI
  rw [hl, hi]
  exact hx
theorem wr_ixT {v : V} {ds : List PyData} {n : Nat} {d : PyData} (h : RdT K D O v ds) (hi : ixN ds.length i = some n) (hd : ds[n]? = some d) (k : Gv d D fun v D' => P v D' O) : WR K (rIxT K) v (.int i) D O P := fun H hs Q q => by
  obtain ⟨a, vs, x, e, h1, hl, hx, h2⟩ := h.item hs hd
  obtain ⟨D', k1, h3⟩ := k.use h2
  refine ⟨a, vs, i, x, e, rfl, h1, ?_, q x D' O H k1 h3⟩
  unfold atI
  rw [hl, hi]
  exact hx
end
end Wp

namespace Wp
open PySem L2
section
variable {K : Fg} {D : DL} {O : OL} {σ : L2.St} {ta tb te : TE} {t u tt1 tt2 : TT} {P : V → DL → OL → Prop} {PT' : Bool → DL → OL → Prop} {v : V}

/-! ### either of two readings -/
def eOr (a b : TE) : TE := fun σ H Q => a σ H Q ∨ b σ H Q
def tOr2 (a b : TT) : TT := fun σ H Q => a σ H Q ∨ b σ H Q
def sOr (a b : TS) : TS := fun D σ H => a D σ H ∨ b D σ H
def iOr (a b : TI) : TI := fun σ H R => a σ H R ∨ b σ H R
theorem pe_or2 {X : Cx} {e : Expr} {a b : TE} (h : PE X e a) (h' : PE X e b) : PE X e (eOr a b) := ⟨fun pins s σ H Q I w => w.elim (h.run pins s σ H Q I) (h'.run pins s σ H Q I)⟩
theorem pt_or2 {X : Cx} {e : Expr} {a b : TT} (h : PT X e a) (h' : PT X e b) : PT X e (tOr2 a b) := ⟨fun pins s σ H Q I w => w.elim (h.run pins s σ H Q I) (h'.run pins s σ H Q I)⟩
theorem ps_or2 {X : Cx} {e : Stmt} {a b : TS} (h : PS X e a) (h' : PS X e b) : PS X e (sOr a b) := ⟨fun pins s σ H Q I w => w.elim (h.run pins s σ H Q I) (h'.run pins s σ H Q I)⟩
theorem pi_or2 {X : Cx} {tg e : Expr} {a b : TI} (h : PI X tg e a) (h' : PI X tg e b) : PI X tg e (iOr a b) := ⟨fun pins s σ H R I w => w.elim (h.run pins s σ H R I) (h'.run pins s σ H R I)⟩
theorem we_l (h : WE K ta σ D O P) : WE K (eOr ta tb) σ D O P := fun H hs Q q => .inl (h H hs Q q)
theorem we_r (h : WE K tb σ D O P) : WE K (eOr ta tb) σ D O P := fun H hs Q q => .inr (h H hs Q q)
theorem wt_l (h : WT K t σ D O PT') : WT K (tOr2 t u) σ D O PT' := fun H hs Q q => .inl (h H hs Q q)
theorem wt_r (h : WT K u σ D O PT') : WT K (tOr2 t u) σ D O PT' := fun H hs Q q => .inr (h H hs Q q)

/-! ### tests -/
theorem wt_test (h : WE K te σ D O fun v D1 O1 => ∃ b, v = .bl b ∧ PT' b D1 O1) : WT K (tTest te) σ D O PT' := fun H hs Q q =>
  h H hs _ fun _ _ _ H1 ⟨b, e, k⟩ s1 => ⟨b, e, q b _ _ H1 k s1⟩
theorem wt_B (h : WE K te σ D O fun v D1 O1 => ∃ b, v = .bl b ∧ PT' b D1 O1) : WT K (tB te) σ D O PT' := fun H hs Q q =>
  h H hs _ fun _ _ _ H1 ⟨b, e, k⟩ s1 => ⟨b, e, q b _ _ H1 k s1⟩
theorem wt_not (h : WT K t σ D O fun b D1 O1 => PT' (!b) D1 O1) : WT K (tNot t) σ D O PT' := fun H hs Q q =>
  h H hs _ fun _ _ _ H1 k s1 => q _ _ _ H1 k s1
theorem wt_and (h : WT K t σ D O fun b D1 O1 => if b = true then WT K u σ D1 O1 PT' else PT' false D1 O1) : WT K (tAnd t u) σ D O PT' := fun H hs Q q =>
  h H hs _ fun b _ _ H1 k s1 => by
    cases b with
    | true => exact k H1 s1 Q q
    | false => exact q false _ _ H1 k s1
theorem wt_or (h : WT K t σ D O fun b D1 O1 => if b = true then PT' true D1 O1 else WT K u σ D1 O1 PT') : WT K (tOr t u) σ D O PT' := fun H hs Q q =>
  h H hs _ fun b _ _ H1 k s1 => by
    cases b with
    | true => exact q true _ _ H1 k s1
    | false => exact k H1 s1 Q q
theorem wt_truth {r : V → Hp → Bool → Prop} (h : WE K te σ D O fun v D1 O1 => ∀ H, Hs K D1 O1 H → ∃ b, r v H b ∧ PT' b D1 O1) : WT K (fun σ H Q => te σ H fun x H' => ∃ k, r x H' k ∧ Q k H') σ D O PT' := fun H hs Q q =>
  h H hs _ fun _ D1 O1 H1 k s1 => by
    obtain ⟨b, e, p⟩ := k H1 s1
    exact ⟨b, e, q b _ _ H1 p s1⟩
/-! .. as values -/
theorem we_andV (h : WE K ta σ D O fun v D1 O1 => ∃ b, v = .bl b ∧ if b = true then WE K tb σ D1 O1 P else P (.bl false) D1 O1) : WE K (tAndV ta tb) σ D O P := fun H hs Q q =>
  h H hs _ fun _ _ _ H1 ⟨b, e, k⟩ s1 => ⟨b, e, by
    cases b with
    | true => exact k H1 s1 Q q
    | false => exact q _ _ _ H1 k s1⟩
theorem we_orV (h : WE K ta σ D O fun v D1 O1 => ∃ b, v = .bl b ∧ if b = true then P (.bl true) D1 O1 else WE K tb σ D1 O1 P) : WE K (tOrV ta tb) σ D O P := fun H hs Q q =>
  h H hs _ fun _ _ _ H1 ⟨b, e, k⟩ s1 => ⟨b, e, by
    cases b with
    | true => exact q _ _ _ H1 k s1
    | false => exact k H1 s1 Q q⟩
theorem we_notV (h : WE K ta σ D O fun v D1 O1 => ∃ b, v = .bl b ∧ P (.bl (!b)) D1 O1) : WE K (tNotV ta) σ D O P := fun H hs Q q =>
  h H hs _ fun _ _ _ H1 ⟨b, e, k⟩ s1 => ⟨b, e, q _ _ _ H1 k s1⟩
theorem we_isN (h : WE K ta σ D O fun v D1 O1 => P (.bl (decide (v = .non))) D1 O1) : WE K (tIsN ta) σ D O P := fun H hs Q q => h H hs _ fun _ _ _ H1 k s1 => q _ _ _ H1 k s1
theorem we_notN (h : WE K ta σ D O fun v D1 O1 => P (.bl (!decide (v = .non))) D1 O1) : WE K (tNotN ta) σ D O P := fun H hs Q q => h H hs _ fun _ _ _ H1 k s1 => q _ _ _ H1 k s1
theorem we_chain {r r' : R2} {tc : TE} (h : WE K ta σ D O fun x D1 O1 => WE K tb σ D1 O1 fun y D2 O2 => WR K r x y D2 O2 fun z D3 O3 => ∃ b, z = .bl b ∧ if b = true then WE K tc σ D3 O3 fun w D4 O4 => WR K r' y w D4 O4 P else P (.bl false) D3 O3) :
    WE K (tChain r r' ta tb tc) σ D O P := fun H hs Q q => h H hs _ fun _ _ _ H1 k1 s1 => k1 H1 s1 _ fun _ _ _ H2 k2 s2 => k2 H2 s2 _ fun z D3 O3 H3 ⟨b, e, k3⟩ s3 => ⟨b, e, by
    cases b with
    | true => exact k3 H3 s3 _ fun w _ _ H4 k4 s4 => k4 H4 s4 Q q
    | false => exact q _ _ _ H3 k3 s3⟩
end

/-! ### statements -/
section
variable {K : Fg} {D : DL} {O : OL} {σ : L2.St} {te ta tb : TE} {tt : TT} {t u : TS} {g : TG} {P : Po} {v : V}
theorem ws_l (h : WS K t σ D O P) : WS K (sOr t u) σ D O P := fun H hs E a b c d => .inl (h H hs E a b c d)
theorem ws_r (h : WS K u σ D O P) : WS K (sOr t u) σ D O P := fun H hs E a b c d => .inr (h H hs E a b c d)
theorem ws_next (k : P.nx σ D O) : WS K tNext σ D O P := fun H hs E a _ _ _ => a σ D O H k hs
theorem ws_seq (h : WS K t σ D O { P with nx := fun σ1 D1 O1 => WS K u σ1 D1 O1 P }) : WS K (tSeq t u) σ D O P := fun H hs E a b c d =>
  h H hs { E with nx := u E } (fun _ _ _ H1 k s1 => k H1 s1 E a b c d) b c d
theorem ws_asg (h : WE K te σ D O fun x D1 O1 => WG K g x σ D1 O1 P.nx) : WS K (tAsg te g) σ D O P := fun H hs E a _ _ _ =>
  h H hs _ fun _ _ _ H1 k s1 => k H1 s1 _ a
theorem wg_name {i : Nat} {Q : L2.St → DL → OL → Prop} (k : Q (σ.set i (some v)) D O) : WG K (gName i) v σ D O Q := fun H hs R q => q _ D O H k hs
theorem ws_set {i : Nat} (h : WE K te σ D O fun x D1 O1 => P.nx (σ.set i (some x)) D1 O1) : WS K (tAsg te (gName i)) σ D O P := ws_asg fun H hs Q q => h H hs Q fun x D1 O1 H1 k s1 => q x D1 O1 H1 (wg_name k) s1
theorem ws_ret (h : WE K te σ D O P.rt) : WS K (tRet te) σ D O P := fun H hs E _ b _ _ => h H hs _ b
theorem ws_retN (k : P.rt .non D O) : WS K tRetN σ D O P := fun H hs E _ b _ _ => b _ D O H k hs
theorem ws_drop (h : WE K te σ D O fun _ D1 O1 => P.nx σ D1 O1) : WS K (tDrop te) σ D O P := fun H hs E a _ _ _ => h H hs _ fun _ _ _ H1 k s1 => a _ _ _ H1 k s1
theorem ws_if (h : WT K tt σ D O fun b D1 O1 => if b = true then WS K t σ D1 O1 P else WS K u σ D1 O1 P) : WS K (tIfS tt t u) σ D O P := fun H hs E a b c d =>
  h H hs _ fun z _ _ H1 k s1 => by
    cases z with
    | true => exact k H1 s1 E a b c d
    | false => exact k H1 s1 E a b c d
theorem ws_aug {i : Nat} {ip : R2} (hx : σ[i]? = some (some v)) (h : WE K te σ D O fun y D1 O1 => WR K ip v y D1 O1 fun z D2 O2 => P.nx (σ.set i (some z)) D2 O2) : WS K (tAug i te ip) σ D O P := fun H hs E a _ _ _ =>
  ⟨v, hx, h H hs _ fun _ _ _ H1 k s1 => k H1 s1 _ fun _ _ _ H2 k2 s2 => a _ _ _ H2 k2 s2⟩
theorem ws_brk (k : P.bk σ D O) : WS K tBreak σ D O P := fun H hs E _ _ c _ => c σ D O H k hs
theorem ws_cont (k : P.ct σ D O) : WS K tCont σ D O P := fun H hs E _ _ _ d => d σ D O H k hs
theorem ws_par {i j : Nat} {ta : TA} (h : WA K ta σ D O fun vs D1 O1 => ∃ v w, vs = [v, w] ∧ P.nx ((σ.set i (some v)).set j (some w)) D1 O1) : WS K (tPar i j ta) σ D O P := fun H hs E a _ _ _ =>
  h H hs _ fun _ _ _ H1 ⟨v, w, e, k⟩ s1 => ⟨v, w, e, a _ _ _ H1 k s1⟩
theorem wgs_nil {Q : L2.St → DL → OL → Prop} (k : Q σ D O) : WGs K gNil [] σ D O Q := fun H hs R q => ⟨rfl, q _ D O H k hs⟩
theorem wgs_cons {gs : TGs} {vs : List V} {Q : L2.St → DL → OL → Prop} (h : WG K g v σ D O fun σ1 D1 O1 => WGs K gs vs σ1 D1 O1 Q) : WGs K (gCons g gs) (v :: vs) σ D O Q := fun H hs R q =>
  ⟨v, vs, rfl, h H hs _ fun _ _ _ H1 k s1 => k H1 s1 R q⟩
/-- data come one by one -/
def Gvs : List PyData → DL → (List V → DL → Prop) → Prop
  | [], D, k => k [] D
  | d :: ds, D, k => Gv d D fun v D1 => Gvs ds D1 fun vs D2 => k (v :: vs) D2
theorem Gvs.use {O : OL} {H : Hp} : ∀ {vs : List V} {ds : List PyData} {D : DL} {k : List V → DL → Prop}, Gvs ds D k → vs.length = ds.length → Hs K (vs.zip ds ++ D) O H → ∃ D', k vs D' ∧ Hs K D' O H
  | [], ds, D, k, g, hl, hs => by
    cases ds with
    | nil => exact ⟨D, g, by simpa using hs⟩
    | cons d ds => simp at hl
  | v :: vs, ds, D, k, g, hl, hs => by
    cases ds with
    | nil => simp at hl
    | cons d ds =>
      have h0 : Dp K H v d := hs.dp (has_mem (by rw [List.zip_cons_cons]; exact List.mem_append_left _ List.mem_cons_self))
      obtain ⟨D1, g1, m1⟩ := Gv.use' g h0
      have h2 : Hs K (vs.zip ds ++ D1) O H := hs.more fun y hy => by
        rw [List.zip_cons_cons]
        rcases List.mem_append.mp hy with z | z
        · exact has_mem (List.mem_append_left _ (List.mem_cons_of_mem _ z))
        · rcases m1 y z with z | z
          · subst z; exact has_mem (List.mem_append_left _ List.mem_cons_self)
          · exact has_mem (List.mem_append_right _ z)
      obtain ⟨D2, k2, s2⟩ := Gvs.use (vs := vs) g1 (by simpa using hl) h2
      exact ⟨D2, k2, s2⟩
/-- a, b = a tuple -/
theorem wg_tup {n : Nat} {gs : TGs} {ds : List PyData} {Q : L2.St → DL → OL → Prop} (h : RdT K D O v ds) (hn : ds.length = n) (k : Gvs ds D fun vs D1 => WGs K gs vs σ D1 O Q) : WG K (gTup K n gs) v σ D O Q := fun H hs R q => by
  obtain ⟨a, vs, e, h1, hl, h2⟩ := h.get hs
  obtain ⟨D1, k1, s1⟩ := Gvs.use k hl h2
  exact ⟨a, vs, e, h1, hl.trans hn, k1 H s1 R q⟩

/-! ### loops -/
def Nx (K : Fg) (I : L2.St → DL → OL → Prop) : L2.St → DL → OL → Prop := fun σ D O => ∃ D' O', I σ D' O' ∧ Imp K D O D' O'
theorem Nx.of {I : L2.St → DL → OL → Prop} (h : I σ D O) : Nx K I σ D O := ⟨D, O, h, Imp.refl⟩
/-- one walked thing: n turns -/
theorem ws_loop {wi : TI} {tb : TS}
    (h : ∀ H, Hs K D O H → ∀ R : It → Hp → Prop, (∀ J H1, (∃ (n : Nat) (I : Nat → L2.St → DL → OL → Prop) (D1 : DL) (O1 : OL), I 0 σ D1 O1 ∧ Hs K D1 O1 H1 ∧
      (∀ i σ' D' O' H', i < n → I i σ' D' O' → Hs K D' O' H' → J.go i H' ∧ ∀ x H2, J.yld i H' x H2 → ∃ D2 O2, Hs K D2 O2 H2 ∧ WG K g x σ' D2 O2 fun σ3 D3 O3 => WS K tb σ3 D3 O3 { nx := Nx K (I (i + 1)), rt := P.rt, bk := P.nx, ct := Nx K (I (i + 1)) }) ∧
      (∀ σ' D' O' H', I n σ' D' O' → Hs K D' O' H' → J.stop n H') ∧ ∀ σ' D' O', I n σ' D' O' → P.nx σ' D' O') → R J H1) → wi σ H R) : WS K (tFor wi g tb) σ D O P := fun H hs E a b c d => by
  refine h H hs _ ?_
  rintro J H1 ⟨n, I, D1, O1, h0, hs1, turn, stop, done⟩
  refine ⟨fun i m σ' H' => m = n - i ∧ i ≤ n ∧ ∃ D' O', I i σ' D' O' ∧ Hs K D' O' H', ⟨n, by omega, by omega, D1, O1, h0, hs1⟩, ?_⟩
  rintro i m σ' H' ⟨rfl, hi, D', O', hI, hs'⟩
  by_cases hlt : i < n
  · obtain ⟨go, yld⟩ := turn i σ' D' O' H' hlt hI hs'
    refine .inr ⟨go, fun σ2 H2 => ∃ D2 O2, I (i + 1) σ2 D2 O2 ∧ Hs K D2 O2 H2, ?_, fun x H2 hy => ?_⟩
    · rintro σ2 H2 ⟨D2, O2, h1, h2⟩
      exact ⟨n - (i + 1), by omega, rfl, hlt, D2, O2, h1, h2⟩
    · obtain ⟨D2, O2, s2, w⟩ := yld x H2 hy
      refine w H2 s2 _ fun σ3 D3 O3 H3 k3 s3 => ?_
      refine k3 H3 s3 _ ?_ b ?_ ?_
      · rintro σ4 D4 O4 H4 ⟨D5, O5, k4, i4⟩ s4
        exact ⟨D5, O5, k4, i4 H4 s4⟩
      · intro σ4 D4 O4 H4 k4 s4
        exact a _ _ _ _ k4 s4
      · rintro σ4 D4 O4 H4 ⟨D5, O5, k4, i4⟩ s4
        exact ⟨D5, O5, k4, i4 H4 s4⟩
  · have e : i = n := by omega
    subst e
    exact .inl ⟨stop σ' D' O' H' hI hs', a _ _ _ _ (done σ' D' O' hI) hs'⟩
/-- for x in a list -/
theorem ws_forL {tl : TE} {tb : TS} (h : WE K tl σ D O fun v D1 O1 => ∃ (ds : List PyData) (I : Nat → L2.St → DL → OL → Prop), Nx K (I 0) σ D1 O1 ∧ (∀ i σ' D' O', I i σ' D' O' → RdL K D' O' v ds) ∧
      (∀ i d σ' D' O', ds[i]? = some d → I i σ' D' O' → Gv d D' fun x D2 => WG K g x σ' D2 O' fun σ3 D3 O3 => WS K tb σ3 D3 O3 { nx := Nx K (I (i + 1)), rt := P.rt, bk := P.nx, ct := Nx K (I (i + 1)) }) ∧ ∀ σ' D' O', I ds.length σ' D' O' → P.nx σ' D' O') :
    WS K (tFor (iList K tl) g tb) σ D O P := ws_loop fun H hs R hR => h H hs _ fun v D1' O1' H1 ⟨ds, I, ⟨D1, O1, h0, im0⟩, hr, turn, done⟩ s1' => by
  have s1 := im0 H1 s1'
  obtain ⟨a, vs, rfl, h1, hl, _⟩ := (hr 0 σ D1 O1 h0).get s1
  refine ⟨a, rfl, ⟨vs, h1⟩, hR _ _ ⟨ds.length, I, D1, O1, h0, s1, fun i σ' D' O' H' hi hI hs' => ?_, fun σ' D' O' H' hI hs' => ?_, done⟩⟩
  · have hd : ds[i]? = some ds[i] := List.getElem?_eq_getElem hi
    obtain ⟨a', vs', x, e, h3, hl3, hx, h4⟩ := (hr i σ' D' O' hI).item hs' hd
    cases e
    refine ⟨⟨vs', x, h3, hx⟩, fun y H2 hy => ?_⟩
    obtain ⟨rfl, hy⟩ := hy
    have := hy vs' h3
    rw [hx] at this
    cases this
    obtain ⟨D2, k2, s2⟩ := (turn i _ σ' D' O' hd hI).use h4
    exact ⟨D2, O', s2, k2⟩
  · obtain ⟨a', vs', e, h3, hl3, _⟩ := (hr _ σ' D' O' hI).get hs'
    cases e
    exact ⟨vs', h3, by omega⟩
theorem ws_forT {tl : TE} {tb : TS} (h : WE K tl σ D O fun v D1 O1 => ∃ (ds : List PyData) (I : Nat → L2.St → DL → OL → Prop), Nx K (I 0) σ D1 O1 ∧ (∀ i σ' D' O', I i σ' D' O' → RdT K D' O' v ds) ∧
      (∀ i d σ' D' O', ds[i]? = some d → I i σ' D' O' → Gv d D' fun x D2 => WG K g x σ' D2 O' fun σ3 D3 O3 => WS K tb σ3 D3 O3 { nx := Nx K (I (i + 1)), rt := P.rt, bk := P.nx, ct := Nx K (I (i + 1)) }) ∧ ∀ σ' D' O', I ds.length σ' D' O' → P.nx σ' D' O') :
    WS K (tFor (iTup K tl) g tb) σ D O P := ws_loop fun H hs R hR => h H hs _ fun v D1' O1' H1 ⟨ds, I, ⟨D1, O1, h0, im0⟩, hr, turn, done⟩ s1' => by
  have s1 := im0 H1 s1'
  obtain ⟨a, vs, rfl, h1, hl, _⟩ := (hr 0 σ D1 O1 h0).get s1
  refine ⟨a, rfl, ⟨vs, h1⟩, hR _ _ ⟨ds.length, I, D1, O1, h0, s1, fun i σ' D' O' H' hi hI hs' => ?_, fun σ' D' O' H' hI hs' => ?_, done⟩⟩
  · have hd : ds[i]? = some ds[i] := List.getElem?_eq_getElem hi
    obtain ⟨a', vs', x, e, h3, hl3, hx, h4⟩ := (hr i σ' D' O' hI).item hs' hd
    cases e
    refine ⟨⟨vs', x, h3, hx⟩, fun y H2 hy => ?_⟩
    obtain ⟨rfl, hy⟩ := hy
    have := hy vs' h3
    rw [hx] at this
    cases this
    obtain ⟨D2, k2, s2⟩ := (turn i _ σ' D' O' hd hI).use h4
    exact ⟨D2, O', s2, k2⟩
  · obtain ⟨a', vs', e, h3, hl3, _⟩ := (hr _ σ' D' O' hI).get hs'
    cases e
    exact ⟨vs', h3, by omega⟩
theorem ws_for_l {a b : TI} {tb : TS} (h : WS K (tFor a g tb) σ D O P) : WS K (tFor (iOr a b) g tb) σ D O P := fun H hs E x1 x2 x3 x4 => .inl (h H hs E x1 x2 x3 x4)
theorem ws_for_r {a b : TI} {tb : TS} (h : WS K (tFor b g tb) σ D O P) : WS K (tFor (iOr a b) g tb) σ D O P := fun H hs E x1 x2 x3 x4 => .inr (h H hs E x1 x2 x3 x4)
theorem map_at {ns : List Int} {i : Nat} {d : PyData} (h : (ns.map PyData.int)[i]? = some d) : ∃ s, ns[i]? = some s ∧ d = .int s := by
  rw [List.getElem?_map] at h
  cases e : ns[i]? with
  | none => rw [e] at h; simp at h
  | some s => rw [e] at h; simp at h; exact ⟨s, rfl, h.symm⟩
/-- for x in a list of ints -/
theorem ws_forI {tl : TE} {tb : TS} {tx : TI} (h : WE K tl σ D O fun v D1 O1 => ∃ (ns : List Int) (I : Nat → L2.St → DL → OL → Prop), Nx K (I 0) σ D1 O1 ∧ (∀ i σ' D' O', I i σ' D' O' → RdL K D' O' v (ns.map .int)) ∧
      (∀ i s σ' D' O', ns[i]? = some s → I i σ' D' O' → WG K g (.int s) σ' D' O' fun σ3 D3 O3 => WS K tb σ3 D3 O3 { nx := Nx K (I (i + 1)), rt := P.rt, bk := P.nx, ct := Nx K (I (i + 1)) }) ∧ ∀ σ' D' O', I ns.length σ' D' O' → P.nx σ' D' O') :
    WS K (tFor (iOr (iList K tl) tx) g tb) σ D O P := ws_for_l (ws_forL fun H hs Q q => h H hs Q fun v D1 O1 H1 ⟨ns, I, h0, hr, turn, done⟩ s1 => q v D1 O1 H1 ⟨ns.map .int, I, h0, hr, fun i d σ' D' O' hd hI => by
      obtain ⟨s, e, rfl⟩ := map_at hd
      exact turn i s σ' D' O' e hI, fun σ' D' O' hI => done σ' D' O' (by rw [List.length_map] at hI; exact hI)⟩ s1)
/-- for i in range(n), range(a, b) -/
theorem ws_forR1 {ta : TA} {tb : TS} (h : WA K ta σ D O fun vs D1 O1 => ∃ (j : Int) (I : Nat → L2.St → DL → OL → Prop), vs = [.int j] ∧ (-(2 ^ 62) ≤ j ∧ j < 2 ^ 62) ∧ Nx K (I 0) σ D1 O1 ∧
      (∀ i σ' D' O', i < j.toNat → I i σ' D' O' → WG K g (.int (i : Nat)) σ' D' O' fun σ3 D3 O3 => WS K tb σ3 D3 O3 { nx := Nx K (I (i + 1)), rt := P.rt, bk := P.nx, ct := Nx K (I (i + 1)) }) ∧ ∀ σ' D' O', I j.toNat σ' D' O' → P.nx σ' D' O') :
    WS K (tFor (iRng1 ta) g tb) σ D O P := ws_loop fun H hs R hR => h H hs _ fun vs D1' O1' H1 ⟨j, I, e, hj, ⟨D1, O1, h0, im0⟩, turn, done⟩ s1' => by
  have s1 := im0 H1 s1'
  refine ⟨j, e, hj.1, hj.2, hR _ _ ⟨j.toNat, I, D1, O1, h0, s1, fun i σ' D' O' H' hi hI hs' => ⟨hi, ?_⟩, fun _ _ _ _ _ _ => Nat.le_refl _, done⟩⟩
  rintro x H2 ⟨rfl, rfl⟩
  refine ⟨D', O', hs', ?_⟩
  rw [Int.zero_add]
  exact turn i σ' D' O' hi hI
theorem ws_forR2 {ta : TA} {tb : TS} (h : WA K ta σ D O fun vs D1 O1 => ∃ (lo hi : Int) (I : Nat → L2.St → DL → OL → Prop), vs = [.int lo, .int hi] ∧ (-(2 ^ 62) ≤ lo ∧ lo < 2 ^ 62 ∧ -(2 ^ 62) ≤ hi ∧ hi < 2 ^ 62) ∧ Nx K (I 0) σ D1 O1 ∧
      (∀ i σ' D' O', i < (hi - lo).toNat → I i σ' D' O' → WG K g (.int (lo + (i : Nat))) σ' D' O' fun σ3 D3 O3 => WS K tb σ3 D3 O3 { nx := Nx K (I (i + 1)), rt := P.rt, bk := P.nx, ct := Nx K (I (i + 1)) }) ∧ ∀ σ' D' O', I (hi - lo).toNat σ' D' O' → P.nx σ' D' O') :
    WS K (tFor (iRng2 ta) g tb) σ D O P := ws_loop fun H hs R hR => h H hs _ fun vs D1' O1' H1 ⟨lo, hi, I, e, hj, ⟨D1, O1, h0, im0⟩, turn, done⟩ s1' => by
  have s1 := im0 H1 s1'
  refine ⟨lo, hi, e, hj, hR _ _ ⟨_, I, D1, O1, h0, s1, fun i σ' D' O' H' hi hI hs' => ⟨hi, ?_⟩, fun _ _ _ _ _ _ => Nat.le_refl _, done⟩⟩
  rintro x H2 ⟨rfl, rfl⟩
  exact ⟨D', O', hs', turn i σ' D' O' hi hI⟩
/-- while: I with its measure -/
theorem ws_while {c : TT} {tb : TS} (I : Nat → L2.St → DL → OL → Prop) (m0 : Nat) (h0 : I m0 σ D O)
    (turn : ∀ m σ' D' O', I m σ' D' O' → WT K c σ' D' O' fun b D1 O1 => if b = true then WS K tb σ' D1 O1 { nx := fun σ2 D2 O2 => ∃ m', m' < m ∧ Nx K (I m') σ2 D2 O2, rt := P.rt, bk := P.nx, ct := fun σ2 D2 O2 => ∃ m', m' < m ∧ Nx K (I m') σ2 D2 O2 } else P.nx σ' D1 O1) :
    WS K (tWhile c tb) σ D O P := fun H hs E a b cc d => by
  refine ⟨fun m σ' H' => ∃ D' O', I m σ' D' O' ∧ Hs K D' O' H', ⟨m0, D, O, h0, hs⟩, ?_⟩
  rintro m σ' H' ⟨D', O', hI, hs'⟩
  refine turn m σ' D' O' hI H' hs' _ fun z D1 O1 H1 k s1 => ?_
  cases z with
  | true =>
    refine ⟨fun σ2 H2 => ∃ m', m' < m ∧ ∃ D2 O2, I m' σ2 D2 O2 ∧ Hs K D2 O2 H2, fun σ2 H2 ⟨m', hm, q⟩ => ⟨m', hm, q⟩, ?_⟩
    refine k H1 s1 _ ?_ b ?_ ?_
    · rintro σ2 D2 O2 H2 ⟨m', hm, D3, O3, k3, i3⟩ s2
      exact ⟨m', hm, D3, O3, k3, i3 H2 s2⟩
    · intro σ4 D4 O4 H4 k4 s4
      exact a _ _ _ _ k4 s4
    · rintro σ2 D2 O2 H2 ⟨m', hm, D3, O3, k3, i3⟩ s2
      exact ⟨m', hm, D3, O3, k3, i3 H2 s2⟩
  | false => exact a _ _ _ _ k s1

/-! ### comprehensions -/
theorem we_lcW {wi : TI} {g : TG} {tt : TT} {te : TE} {vs : List Nat} {Pv : V → DL → OL → Prop}
    (h : ∀ H, Hs K D O H → ∀ R : It → Hp → Prop, (∀ J H1, (∃ (n : Nat) (I : Nat → List PyData → DL → OL → Prop) (D1 : DL) (O1 : OL), I 0 [] D1 O1 ∧ Hs K D1 O1 H1 ∧
      (∀ i p acc D' O' H', i < n → I i acc D' O' → Hs K D' (lstE K p acc :: O') H' → J.go i H' ∧ ∀ x H2, J.yld i H' x H2 → ∃ D2 O2, Hs K D2 O2 H2 ∧ WG K g x (wipe σ vs) D2 O2 fun σ3 D3 O3 => wipe σ3 vs = wipe σ vs ∧ WT K tt σ3 D3 O3 fun b D4 O4 =>
        if b = true then WE K te σ3 D4 O4 fun y D5 O5 => ∃ d D6 O6, Imp K D5 O5 D6 (lstE K p acc :: O6) ∧ Has K D6 y d ∧ acc.length < 1000000 ∧ I (i + 1) (acc ++ [d]) D6 O6
        else ∃ D6 O6, Imp K D4 O4 D6 (lstE K p acc :: O6) ∧ I (i + 1) acc D6 O6) ∧
      (∀ p acc D' O' H', I n acc D' O' → Hs K D' (lstE K p acc :: O') H' → J.stop n H') ∧ ∀ p acc D' O', I n acc D' O' → Pv (.ref p) D' (lstE K p acc :: O')) → R J H1) → wi σ H R) : WE K (tLc wi g tt te vs) σ D O Pv := fun H hs Q q => by
  refine h H hs _ ?_
  rintro J H1 ⟨n, I, D1, O1, h0, hs1, turn, stop, done⟩ p hp
  refine ⟨fun i m H' => m = n - i ∧ i ≤ n ∧ ∃ acc D' O', I i acc D' O' ∧ Hs K D' (lstE K p acc :: O') H', ⟨n, by omega, by omega, [], D1, O1, h0, hs1.newL hp hasl_nil⟩, ?_⟩
  rintro i m H' ⟨rfl, hi, acc, D', O', hI, hs'⟩
  by_cases hlt : i < n
  · obtain ⟨go, yld⟩ := turn i p acc D' O' H' hlt hI hs'
    refine .inr ⟨go, fun H2 => ∃ acc D2 O2, I (i + 1) acc D2 O2 ∧ Hs K D2 (lstE K p acc :: O2) H2, ?_, fun x H2 hy => ?_⟩
    · rintro H2 ⟨acc, D2, O2, h1, h2⟩
      exact ⟨n - (i + 1), by omega, rfl, hlt, acc, D2, O2, h1, h2⟩
    · obtain ⟨D2, O2, s2, w⟩ := yld x H2 hy
      refine w H2 s2 _ fun σ3 D3 O3 H3 ⟨e3, k3⟩ s3 => ⟨e3, k3 H3 s3 _ fun b D4 O4 H4 k4 s4 => ?_⟩
      cases b with
      | true =>
        refine k4 H4 s4 _ fun y D5 O5 H5 ⟨d, D6, O6, im, hd, hl, hI6⟩ s5 => ?_
        have s6 := im H5 s5
        obtain ⟨o, Hi, h1, ⟨ws, e1, h2⟩, fa, _, wr⟩ := s6.front
        subst e1
        have hl2 := dps_len h2
        refine ⟨ws, h1, Nat.lt_of_lt_of_le (by omega : ws.length < 1000000) (by decide), acc ++ [d], D6, O6, hI6, ?_⟩
        exact wr (.lst (ws ++ [y])) (lstC K (acc ++ [d])) ⟨_, rfl, dps_append h2 (.cons (hd _ fa) .nil)⟩
      | false =>
        obtain ⟨D6, O6, im, hI6⟩ := k4
        exact ⟨acc, D6, O6, hI6, im H4 s4⟩
  · have e : i = n := by omega
    subst e
    exact .inl ⟨stop p acc D' O' H' hI hs', q _ _ _ _ (done p acc D' O' hI) hs'⟩
/-- over range(n) -/
theorem we_lcR1 {ta : TA} {g : TG} {tt : TT} {te : TE} {vs : List Nat} {Pv : V → DL → OL → Prop}
    (h : WA K ta σ D O fun ws D1 O1 => ∃ (j : Int) (I : Nat → List PyData → DL → OL → Prop), ws = [.int j] ∧ (-(2 ^ 62) ≤ j ∧ j < 2 ^ 62) ∧ I 0 [] D1 O1 ∧
      (∀ i p acc D' O', i < j.toNat → I i acc D' O' → WG K g (.int (i : Nat)) (wipe σ vs) D' (lstE K p acc :: O') fun σ3 D3 O3 => wipe σ3 vs = wipe σ vs ∧ WT K tt σ3 D3 O3 fun b D4 O4 =>
        if b = true then WE K te σ3 D4 O4 fun y D5 O5 => ∃ d D6 O6, Imp K D5 O5 D6 (lstE K p acc :: O6) ∧ Has K D6 y d ∧ acc.length < 1000000 ∧ I (i + 1) (acc ++ [d]) D6 O6
        else ∃ D6 O6, Imp K D4 O4 D6 (lstE K p acc :: O6) ∧ I (i + 1) acc D6 O6) ∧
      ∀ p acc D' O', I j.toNat acc D' O' → Pv (.ref p) D' (lstE K p acc :: O')) : WE K (tLc (iRng1 ta) g tt te vs) σ D O Pv := we_lcW fun H hs R hR => h H hs _ fun ws D1 O1 H1 ⟨j, I, e, hj, h0, turn, done⟩ s1 => by
  refine ⟨j, e, hj.1, hj.2, hR _ _ ⟨j.toNat, I, D1, O1, h0, s1, fun i p acc D' O' H' hi hI hs' => ⟨hi, ?_⟩, fun _ _ _ _ _ _ _ => Nat.le_refl _, done⟩⟩
  rintro x H2 ⟨rfl, rfl⟩
  refine ⟨D', lstE K p acc :: O', hs', ?_⟩
  rw [Int.zero_add]
  exact turn i p acc D' O' hi hI
/-- .. of ints, nothing else changed -/
theorem we_lcR1I {ta : TA} {g : TG} {te : TE} {vs : List Nat} {Pv : V → DL → OL → Prop} (f : Nat → Int)
    (h : WA K ta σ D O fun ws D1 O1 => ∃ j : Int, ws = [.int j] ∧ j ≤ 1000000 ∧ -(2 ^ 62) ≤ j ∧
      (∀ i p acc, i < j.toNat → WG K g (.int (i : Nat)) (wipe σ vs) D1 (lstE K p acc :: O1) fun σ3 D3 O3 => wipe σ3 vs = wipe σ vs ∧ WE K te σ3 D3 O3 fun y D5 O5 => y = .int (f i) ∧ Imp K D5 O5 D1 (lstE K p acc :: O1)) ∧
      ∀ p, Pv (.ref p) D1 (lstE K p (((List.range j.toNat).map f).map .int) :: O1)) : WE K (tLc (iRng1 ta) g tYes te vs) σ D O Pv := we_lcR1 fun H hs Q q => h H hs Q fun ws D1 O1 H1 ⟨j, e, hj, hj2, turn, done⟩ s1 => q ws D1 O1 H1 ⟨j, fun i acc D' O' => acc = ((List.range i).map f).map .int ∧ D' = D1 ∧ O' = O1, e, ⟨hj2, by omega⟩, ⟨rfl, rfl, rfl⟩, by
    rintro i p acc D' O' hi ⟨rfl, rfl, rfl⟩
    refine fun H2 hs2 R r => turn i p _ hi H2 hs2 R fun σ3 D3 O3 H3 ⟨e3, w3⟩ s3 => r σ3 D3 O3 H3 ⟨e3, fun H4 hs4 R4 r4 => r4 true D3 O3 H4 ?_ hs4⟩ s3
    show if true = true then _ else _
    rw [if_pos rfl]
    intro H5 hs5 R5 r5
    refine w3 H5 hs5 R5 fun y D5 O5 H6 ⟨ey, im⟩ s6 => r5 y D5 O5 H6 ⟨.int (f i), D', O', im, by rw [ey]; exact has_int, by simp; omega, ?_, rfl, rfl⟩ s6
    rw [List.range_succ, List.map_append, List.map_append]
    rfl, by
    rintro p acc D' O' ⟨rfl, rfl, rfl⟩
    exact done p⟩ s1
end
end Wp

namespace Wp
open PySem L2

/-! ### universal operators -/
/-- xs + ys, of lists that are read -/
def rCatS (K : Fg) : R2 := fun x y H Q => ∃ l b xs zs, x = .ref l ∧ y = .ref b ∧ SqL K H l xs ∧ SqL K H b zs ∧ xs.length + zs.length ≤ sizeLine ∧ ∀ p, H p = none → Q (.ref p) (upd H p (.lst (xs ++ zs)))
theorem op_catS {X : Cx} : OpR X (binaryOp .Add) (rCatS X.K) := by
  intro pins s σ H x y v u Q I rx ry h
  obtain ⟨l, b, xs, zs, rfl, rfl, hH, hB, hz, q⟩ := h
  cases rx
  cases ry
  obtain ⟨its, r, ⟨⟨c1, d1, t1, k1⟩, n, ho, hc, hd0, hd⟩, _⟩ := I.list hH
  obtain ⟨its2, r2, ⟨⟨c2, d2, t2, k2⟩, n2, ho2, hc2, hd02, hd2⟩, _⟩ := I.list hB
  simp only at hc hd hc2 hd2
  subst hc hd hc2 hd2
  have e1 := r.length
  have e2 := r2.length
  have hsz : its.toArray.size + its2.toArray.size ≤ sizeLine := by rw [List.size_toArray, List.size_toArray]; omega
  have ea : its.toArray ++ its2.toArray = (its ++ its2).toArray := by simp
  refine concat_meets ⟨_, ho, rfl⟩ ⟨_, ho2, rfl⟩ noFill_list_add seq_list_add PySem.F.slot_list_add PySem.F.entry_list_add (PySem.F.args_list_add_2 _ _) (PyProof.Rows.list_addW l b its.toArray its2.toArray n n2 _ _ _ _ hsz) ⟨ho, ho2, ?_⟩
  rw [ea]
  exact ⟨.ref _, _, I.lnew (t' := s.toks) (r.append r2) (by rw [List.length_append]; omega), rfl, q _ I.fresh⟩
abbrev rADD (K : Fg) : R2 := rOr (rI0 fun i j => .int (i + j)) (rOr (rCatS K) fun x y H Q => ∃ i j, x = .str i ∧ y = .str j ∧ i.length + j.length ≤ sizeLine ∧ Q (.str (i ++ j)) H)
abbrev rSUB : R2 := rI0 fun i j => .int (i - j)
abbrev rMUL : R2 := rOr (rI CMulX fun i j => .int (i * j)) rRep
abbrev rFDIV : R2 := rI CDivW fun i j => .int (i / j)
abbrev rMOD : R2 := rI (fun _ j => 0 < j) fun i j => .int (i % j)
abbrev rPOW : R2 := rI CPow fun i j => .int (i ^ j.toNat)
abbrev rSHL : R2 := rI CShl fun i j => .int (i * 2 ^ j.toNat)
abbrev rSHR : R2 := rI (fun _ j => 0 ≤ j) fun i j => .int (i / 2 ^ j.toNat)
abbrev rAND : R2 := rI0 fun i j => .int (Builtin.bitAnd i j)
abbrev rBOR : R2 := rI0 fun i j => .int (Builtin.bitOr i j)
abbrev rXOR : R2 := rI0 fun i j => .int (Builtin.bitXor i j)
abbrev rEQ (K : Fg) : R2 := rOr rEq (rEqD K)
abbrev rNE (K : Fg) : R2 := rOr rNe (rNeD K)
abbrev rLT : R2 := rI0 fun i j => .bl (decide (i < j))
abbrev rLE : R2 := rI0 fun i j => .bl (decide (i ≤ j))
abbrev rGT : R2 := rI0 fun i j => .bl (decide (j < i))
abbrev rGE : R2 := rI0 fun i j => .bl (decide (j ≤ i))
abbrev rNEG : V → Hp → VK → Prop := rU fun i => .int (-i)
section
variable {X : Cx}
theorem oADD : OpR X (binaryOp .Add) (rADD X.K) := op_or2 op_add (op_or2 op_catS op_add_str)
theorem oSUB : OpR X (binaryOp .Sub) rSUB := op_sub
theorem oMUL : OpR X (binaryOp .Mult) rMUL := op_or2 op_mulX op_rep
theorem oFDIV : OpR X (binaryOp .FloorDiv) rFDIV := op_fdivW
theorem oMOD : OpR X (binaryOp .Mod) rMOD := op_mod
theorem oPOW : OpR X (binaryOp .Pow) rPOW := op_pow
theorem oSHL : OpR X (binaryOp .LShift) rSHL := op_shlW
theorem oSHR : OpR X (binaryOp .RShift) rSHR := op_shr
theorem oAND : OpR X (binaryOp .BitAnd) rAND := op_and
theorem oBOR : OpR X (binaryOp .BitOr) rBOR := op_or
theorem oXOR : OpR X (binaryOp .BitXor) rXOR := op_xor
theorem oEQ (hu : X.A.units + 64 < cLine) : OpR X (compareOp .Eq) (rEQ X.K) := op_or2 op_eq (op_eqD hu)
theorem oNE (hu : X.A.units + 64 < cLine) : OpR X (compareOp .NotEq) (rNE X.K) := op_or2 op_ne (op_neD hu)
theorem ipBOR : PIp X .BitOr rBOR := by
  intro pins s σ H x y v u Q I r1 r2 h
  obtain ⟨i, j, e1, e2, q⟩ := h
  subst e1; subst e2
  obtain ⟨t, rfl⟩ := r1
  obtain ⟨t', rfl⟩ := r2
  exact PyProof.Rows.ior_int ⟨.int _, H, I.tok _, ⟨_, rfl⟩, q⟩
end
section
variable {K : Fg} {D : DL} {O : OL} {P : V → DL → OL → Prop} {i j : Int} {x y v w : V} {a b : Bool} {d e : PyData} {ds es : List PyData}
theorem wr_add (k : P (.int (i + j)) D O) : WR K (rADD K) (.int i) (.int j) D O P := wr_l (wr_I0 k)
theorem wr_sub (k : P (.int (i - j)) D O) : WR K rSUB (.int i) (.int j) D O P := wr_I0 k
theorem wr_mul (c : CMulX i j) (k : P (.int (i * j)) D O) : WR K rMUL (.int i) (.int j) D O P := wr_l (wr_I c k)
theorem wr_fdiv (c : CDivW i j) (k : P (.int (i / j)) D O) : WR K rFDIV (.int i) (.int j) D O P := wr_I c k
theorem wr_mod (c : 0 < j) (k : P (.int (i % j)) D O) : WR K rMOD (.int i) (.int j) D O P := wr_I c k
theorem wr_pow (c : CPow i j) (k : P (.int (i ^ j.toNat)) D O) : WR K rPOW (.int i) (.int j) D O P := wr_I c k
theorem wr_shl (c : CShl i j) (k : P (.int (i * 2 ^ j.toNat)) D O) : WR K rSHL (.int i) (.int j) D O P := wr_I c k
theorem wr_shr (c : 0 ≤ j) (k : P (.int (i / 2 ^ j.toNat)) D O) : WR K rSHR (.int i) (.int j) D O P := wr_I c k
theorem wr_and (k : P (.int (Builtin.bitAnd i j)) D O) : WR K rAND (.int i) (.int j) D O P := wr_I0 k
theorem wr_bor (k : P (.int (Builtin.bitOr i j)) D O) : WR K rBOR (.int i) (.int j) D O P := wr_I0 k
theorem wr_xor (k : P (.int (Builtin.bitXor i j)) D O) : WR K rXOR (.int i) (.int j) D O P := wr_I0 k
theorem wu_neg (k : P (.int (-i)) D O) : WU K rNEG (.int i) D O P := wu_I k
theorem wr_lt (k : P (.bl (decide (i < j))) D O) : WR K rLT (.int i) (.int j) D O P := wr_I0 k
theorem wr_le (k : P (.bl (decide (i ≤ j))) D O) : WR K rLE (.int i) (.int j) D O P := wr_I0 k
theorem wr_gt (k : P (.bl (decide (j < i))) D O) : WR K rGT (.int i) (.int j) D O P := wr_I0 k
theorem wr_ge (k : P (.bl (decide (j ≤ i))) D O) : WR K rGE (.int i) (.int j) D O P := wr_I0 k
theorem dV_int : decide (V.int i = V.int j) = decide (i = j) := by simp
theorem dV_bl : decide (V.bl a = V.bl b) = decide (a = b) := by simp
theorem dV_str {s t : Str} : decide (V.str s = V.str t) = decide (s = t) := by simp
theorem wr_eqI (k : P (.bl (decide (i = j))) D O) : WR K (rEQ K) (.int i) (.int j) D O P := wr_l fun H hs Q q => ⟨rfl, by rw [dV_int]; exact q _ D O H k hs⟩
theorem wr_neI (k : P (.bl (!decide (i = j))) D O) : WR K (rNE K) (.int i) (.int j) D O P := wr_l fun H hs Q q => ⟨rfl, by rw [dV_int]; exact q _ D O H k hs⟩
theorem wr_eqB (k : P (.bl (decide (a = b))) D O) : WR K (rEQ K) (.bl a) (.bl b) D O P := wr_l fun H hs Q q => ⟨rfl, by rw [dV_bl]; exact q _ D O H k hs⟩
theorem wr_neB (k : P (.bl (!decide (a = b))) D O) : WR K (rNE K) (.bl a) (.bl b) D O P := wr_l fun H hs Q q => ⟨rfl, by rw [dV_bl]; exact q _ D O H k hs⟩
theorem wr_eqS {s t : Str} (k : P (.bl (decide (s = t))) D O) : WR K (rEQ K) (.str s) (.str t) D O P := wr_l fun H hs Q q => ⟨rfl, by rw [dV_str]; exact q _ D O H k hs⟩
theorem wr_neS {s t : Str} (k : P (.bl (!decide (s = t))) D O) : WR K (rNE K) (.str s) (.str t) D O P := wr_l fun H hs Q q => ⟨rfl, by rw [dV_str]; exact q _ D O H k hs⟩
theorem wr_eqV (h : scal x y = true) (k : P (.bl (decide (x = y))) D O) : WR K (rEQ K) x y D O P := wr_l fun H hs Q q => ⟨h, q _ D O H k hs⟩
theorem wr_neV (h : scal x y = true) (k : P (.bl (!decide (x = y))) D O) : WR K (rNE K) x y D O P := wr_l fun H hs Q q => ⟨h, q _ D O H k hs⟩
/-- data as it is read: what stands for v -/
def RdD (K : Fg) (D : DL) (O : OL) (v : V) (d : PyData) : Prop := ∀ H, Hs K D O H → Dp K H v d
theorem rdd_has (h : Has K D v d) : RdD K D O v d := fun H hs => hs.dp h
theorem zip_all {H : Hp} : ∀ {vs : List V} {ds : List PyData}, vs.length = ds.length → (∀ x ∈ vs.zip ds, Dp K H x.1 x.2) → DpAll K H vs ds
  | [], [], _, _ => .nil
  | [], _ :: _, h, _ => by simp at h
  | _ :: _, [], h, _ => by simp at h
  | v :: vs, d :: ds, h, f => .cons (f (v, d) (by rw [List.zip_cons_cons]; exact List.mem_cons_self)) (zip_all (by simpa using h) fun x hx => f x (by rw [List.zip_cons_cons]; exact List.mem_cons_of_mem _ hx))
theorem rdd_list (h : RdL K D O v ds) : RdD K D O v (.list ds) := by
  rintro H ⟨fps, hx⟩
  obtain ⟨a, vs, rfl, h1, h2⟩ := h fps H hx
  exact .lst h1 (dps_mono cut_le _ h2)
theorem rdd_tup (h : RdT K D O v ds) : RdD K D O v (.tuple ds) := by
  rintro H ⟨fps, hx⟩
  obtain ⟨a, vs, rfl, h1, h2⟩ := h fps H hx
  exact .tup h1 (dps_mono cut_le _ h2)
theorem wr_eqD (h : RdD K D O v d) (h' : RdD K D O w e) (s1 : SeqAt.shaped d = true) (s2 : SeqAt.shaped e = true) (k : P (.bl (PyData.eqv d e)) D O) : WR K (rEQ K) v w D O P :=
  wr_r fun H hs Q q => ⟨d, e, h H hs, h' H hs, s1, s2, q _ D O H k hs⟩
theorem wr_neD (h : RdD K D O v d) (h' : RdD K D O w e) (s1 : SeqAt.shaped d = true) (s2 : SeqAt.shaped e = true) (k : P (.bl (!PyData.eqv d e)) D O) : WR K (rNE K) v w D O P :=
  wr_r fun H hs Q q => ⟨d, e, h H hs, h' H hs, s1, s2, q _ D O H k hs⟩

/-! ### list data: shapes, equality -/
theorem canLay_ints : ∀ ns : List Int, PyData.canLayAll0 (ns.map PyData.int) = true
  | [] => by simp [PyData.canLayAll0]
  | n :: ns => by simp [PyData.canLayAll0, PyData.canLay0, canLay_ints ns]
theorem depth_ints : ∀ ns : List Int, PyData.depthAll (ns.map PyData.int) ≤ 1
  | [] => by simp [PyData.depthAll]
  | n :: ns => by
    have := depth_ints ns
    simp only [List.map_cons, PyData.depthAll, PyData.depth]
    omega
theorem shaped_ints {ns : List Int} : SeqAt.shaped (.list (ns.map PyData.int)) = true := by
  have h1 := canLay_ints ns
  have h2 := depth_ints ns
  unfold SeqAt.shaped
  rw [show (PyData.list (ns.map PyData.int)).canLay0 = true by simpa [PyData.canLay0] using h1, Bool.true_and]
  refine decide_eq_true ?_
  simp only [PyData.depth]
  omega
theorem shaped_tints {ns : List Int} : SeqAt.shaped (.tuple (ns.map PyData.int)) = true := by
  have h1 := canLay_ints ns
  have h2 := depth_ints ns
  unfold SeqAt.shaped
  rw [show (PyData.tuple (ns.map PyData.int)).canLay0 = true by simpa [PyData.canLay0] using h1, Bool.true_and]
  refine decide_eq_true ?_
  simp only [PyData.depth]
  omega
theorem eqvAll_ints : ∀ ns ms : List Int, PyData.eqvAll (ns.map PyData.int) (ms.map PyData.int) = decide (ns = ms)
  | [], [] => by simp [PyData.eqvAll]
  | [], m :: ms => by simp [PyData.eqvAll]
  | n :: ns, [] => by simp [PyData.eqvAll]
  | n :: ns, m :: ms => by
    simp only [List.map_cons, PyData.eqvAll, PyData.eqv, eqvAll_ints ns ms]
    by_cases h : n = m <;> by_cases h2 : ns = ms <;> simp [h, h2]
theorem eqv_ints {ns ms : List Int} : PyData.eqv (.list (ns.map PyData.int)) (.list (ms.map PyData.int)) = decide (ns = ms) := by
  simp only [PyData.eqv, eqvAll_ints]
abbrev dI (ns : List Int) : PyData := .list (ns.map PyData.int)
theorem wr_neL {ns ms : List Int} (h : RdL K D O v (ns.map .int)) (h' : RdL K D O w (ms.map .int)) (k : P (.bl (!decide (ns = ms))) D O) : WR K (rNE K) v w D O P :=
  wr_neD (rdd_list h) (rdd_list h') shaped_ints shaped_ints (by rw [eqv_ints]; exact k)
theorem wr_eqL {ns ms : List Int} (h : RdL K D O v (ns.map .int)) (h' : RdL K D O w (ms.map .int)) (k : P (.bl (decide (ns = ms))) D O) : WR K (rEQ K) v w D O P :=
  wr_eqD (rdd_list h) (rdd_list h') shaped_ints shaped_ints (by rw [eqv_ints]; exact k)
theorem map_int_inj : ∀ {ns ms : List Int}, ns.map V.int = ms.map V.int → ns = ms
  | [], [], _ => rfl
  | [], _ :: _, h => by simp at h
  | _ :: _, [], h => by simp at h
  | n :: ns, m :: ms, h => by
    simp only [List.map_cons, List.cons.injEq, V.int.injEq] at h
    rw [h.1, map_int_inj h.2]
/-- the ints of a list that is read -/
theorem RdL.ints {ns : List Int} (h : RdL K D O v (ns.map .int)) {H : Hp} (hs : Hs K D O H) : ∃ a, v = .ref a ∧ SqL K H a (ns.map V.int) := by
  have := rdd_list h H hs
  cases this with
  | lst h1 h2 => exact ⟨_, rfl, by rw [← dps_ints h2]; exact h1⟩
theorem RdT.ints {ns : List Int} (h : RdT K D O v (ns.map .int)) {H : Hp} (hs : Hs K D O H) : ∃ a, v = .ref a ∧ SqT K H a (ns.map V.int) := by
  have := rdd_tup h H hs
  cases this with
  | tup h1 h2 => exact ⟨_, rfl, by rw [← dps_ints h2]; exact h1⟩

/-! ### subscripts -/
theorem ixN_nat {n j : Nat} {i : Int} (h0 : 0 ≤ i) (h1 : i.toNat = j) (hj : j < n) : ixN n i = some j := by
  unfold ixN
  rw [if_pos h0, if_pos (by omega), h1]
theorem wr_xL {x y : V} (h : WR K (rIxL K) x y D O P) : WR K (L2.rIx K) x y D O P := fun H hs Q q => .inl (h H hs Q q)
theorem wr_xT {x y : V} (h : WR K (rIxT K) x y D O P) : WR K (L2.rIx K) x y D O P := fun H hs Q q => .inr (.inl (h H hs Q q))
theorem wr_xS {x y : V} (h : WR K rIxS x y D O P) : WR K (L2.rIx K) x y D O P := fun H hs Q q => .inr (.inr (h H hs Q q))
/-- an int of a list of ints -/
theorem wr_ixI {ns : List Int} (h : RdL K D O v (ns.map .int)) (h0 : 0 ≤ i) (h1 : i < ns.length) (k : P (.int (ns.getD i.toNat 0)) D O) : WR K (L2.rIx K) v (.int i) D O P := by
  refine wr_xL ?_
  have hn : i.toNat < ns.length := by omega
  refine wr_ixL (n := i.toNat) (d := .int (ns.getD i.toNat 0)) h (ixN_nat h0 rfl (by simpa using hn)) ?_ k
  rw [List.getElem?_map, List.getElem?_eq_getElem hn, List.getD_eq_getElem?_getD, List.getElem?_eq_getElem hn]
  rfl

theorem getD_mem {ns : List Int} (h0 : 0 ≤ i) (h1 : i < ns.length) : ns.getD i.toNat 0 ∈ ns := by
  have hn : i.toNat < ns.length := by omega
  rw [List.getD_eq_getElem?_getD, List.getElem?_eq_getElem hn]
  exact List.getElem_mem hn
theorem wr_neLN {ns : List Int} (h : RdL K D O v (ns.map .int)) (h' : RdL K D O w []) (k : P (.bl (!decide (ns = []))) D O) : WR K (rNE K) v w D O P := wr_neL (ms := []) h h' k
theorem wr_eqLN {ns : List Int} (h : RdL K D O v (ns.map .int)) (h' : RdL K D O w []) (k : P (.bl (decide (ns = []))) D O) : WR K (rEQ K) v w D O P := wr_eqL (ms := []) h h' k
/-- a written list of ints -/
theorem hi_nil : HasL K D [] (([] : List Int).map PyData.int) := hasl_nil
theorem hi_cons {vs : List V} {n : Int} {ns : List Int} (h : HasL K D vs (ns.map .int)) : HasL K D (.int n :: vs) ((n :: ns).map .int) := hasl_cons has_int h

/-! ### dicts with int and text keys -/
def kdGet (ks : KD) (k : Key) : Option PyData := (ks.find? fun x => decide (x.1 = k)).map (·.2)
def kdPut (ks : KD) (k : Key) (d : PyData) : KD :=
  if ks.any (fun x => decide (x.1 = k)) = true then ks.map (fun x => if x.1 = k then (x.1, d) else x) else ks ++ [(k, d)]
theorem kd_get {Hi : Hp} {k : Key} : ∀ {ws : List (Key × V)} {ks : KD}, KdOk K Hi ws ks → (kdGet ks k = none → valV ws k = none) ∧ ∀ d, kdGet ks k = some d → ∃ v, valV ws k = some v ∧ Dp K Hi v d
  | _, _, .nil => by
    refine ⟨fun _ => rfl, fun d h => ?_⟩
    simp [kdGet] at h
  | _, _, .cons (a := a) (b := b) r t => by
    obtain ⟨e, hd⟩ := r
    have ih := kd_get (k := k) t
    unfold kdGet valV at ih ⊢
    rw [List.find?_cons, List.find?_cons, e]
    by_cases h : b.1 = k
    · simp only [h, decide_true]
      refine ⟨fun z => by simp at z, fun d hd' => ⟨a.2, rfl, ?_⟩⟩
      simp at hd'
      rw [← hd']
      exact hd
    · simp only [h, decide_false]
      exact ih
theorem we_dget {σ : L2.St} {ta tb : TE} (h : WE K ta σ D O fun x D1 O1 => WE K tb σ D1 O1 fun y D2 O2 => ∃ (p : Addr) (ks : KD) (k : Key) (n : Nat) (d : PyData), x = .ref p ∧ O2[n]? = some (dicE K p ks) ∧ y = kV k ∧ kdGet ks k = some d ∧ Gv d D2 fun v D' => P v D' O2) :
    WE K (tDGet ta tb) σ D O P := (fun H hs Q q => h H hs _ fun x D1 O1 H1 k1 s1 => k1 H1 s1 _ fun y D2 O2 H2 ⟨p, ks, k, n, d, ex, hn, ey, hk, g⟩ s2 => by
  subst ex ey
  obtain ⟨o, Hi, h1, ⟨ws, e1, h2⟩, fa, xl, _⟩ := s2.at hn
  subst e1
  obtain ⟨v, hv, hd⟩ := (kd_get h2).2 d hk
  have s3 : Hs K ((v, d) :: D2) O2 H2 := by
    obtain ⟨fps, nd, pr, fa2⟩ := imp_front hn H2 s2
    cases pr with
    | @cons fp _ l _ r t =>
      obtain ⟨rfl, o, h1', ws', rfl, h2'⟩ := r
      rw [h1] at h1'
      cases h1'
      obtain ⟨v', hv', hd'⟩ := (kd_get h2').2 d hk
      rw [hv] at hv'
      cases hv'
      have : Hs K ((v, d) :: D2) (dicE K p ks :: O2.eraseIdx n) H2 := ⟨[p] :: l, nd, .cons ⟨rfl, _, h1, ws, rfl, h2'⟩ t, Fa.cons fa2 hd'⟩
      exact this.perm (perm_ix hn).symm
  obtain ⟨D3, g3, s4⟩ := g.use s3
  exact ⟨p, v, rfl, by rw [← hv]; exact DGet.k h1, q v D3 O2 H2 g3 s4⟩)
theorem kd_any {Hi : Hp} {k : Key} : ∀ {ws : List (Key × V)} {ks : KD}, KdOk K Hi ws ks → (ws.any fun x => decide (x.1 = k)) = ks.any fun x => decide (x.1 = k)
  | _, _, .nil => rfl
  | _, _, .cons r t => by rw [List.any_cons, List.any_cons, r.1, kd_any t]
theorem kd_map {Hi : Hp} {k : Key} {v : V} {d : PyData} (hd : Dp K Hi v d) : ∀ {ws : List (Key × V)} {ks : KD}, KdOk K Hi ws ks → KdOk K Hi (ws.map fun x => if x.1 = k then (x.1, v) else x) (ks.map fun x => if x.1 = k then (x.1, d) else x)
  | _, _, .nil => .nil
  | _, _, .cons (a := a) (b := b) r t => by
    rw [List.map_cons, List.map_cons]
    refine .cons ?_ (kd_map hd t)
    rw [r.1]
    by_cases h : b.1 = k
    · rw [if_pos h, if_pos h]; exact ⟨rfl, hd⟩
    · rw [if_neg h, if_neg h]; exact r
theorem kd_app {Hi : Hp} {k : Key} {v : V} {d : PyData} (hd : Dp K Hi v d) : ∀ {ws : List (Key × V)} {ks : KD}, KdOk K Hi ws ks → KdOk K Hi (ws ++ [(k, v)]) (ks ++ [(k, d)])
  | _, _, .nil => .cons ⟨rfl, hd⟩ .nil
  | _, _, .cons r t => .cons r (kd_app hd t)
theorem kd_put {Hi : Hp} {k : Key} {v : V} {d : PyData} (hd : Dp K Hi v d) {ws : List (Key × V)} {ks : KD} (h : KdOk K Hi ws ks) : KdOk K Hi (putK ws k v) (kdPut ks k d) := by
  unfold putK kdPut
  rw [kd_any h]
  split
  · exact kd_map hd h
  · exact kd_app hd h
/-- d[k] = v -/
theorem ws_dput {σ : L2.St} {td ty tv : TE} {Q : Po} (h : WE K tv σ D O fun v D1 O1 => WE K td σ D1 O1 fun x D2 O2 => WE K ty σ D2 O2 fun y D3 O3 => ∃ (p : Addr) (ks : KD) (k : Key) (n : Nat) (d : PyData), x = .ref p ∧ O3[n]? = some (dicE K p ks) ∧ y = kV k ∧ Has K D3 v d ∧ ks.length < 1000000 ∧ Q.nx σ D3 (O3.set n (dicE K p (kdPut ks k d)))) :
    WS K (sDPut td ty tv) σ D O Q := fun H hs E a _ _ _ => h H hs _ fun v D1 O1 H1 k1 s1 => k1 H1 s1 _ fun x D2 O2 H2 k2 s2 => k2 H2 s2 _ fun y D3 O3 H3 ⟨p, ks, k, n, d, ex, hn, ey, hd, hl, q⟩ s3 => by
  subst ex ey
  obtain ⟨o, Hi, h1, ⟨ws, e1, h2⟩, fa, xl, wr⟩ := s3.at hn
  subst e1
  have hl2 : ws.length = ks.length := Paired.length h2
  refine ⟨p, _, rfl, DPut.k h1 (Nat.lt_of_lt_of_le (by omega : ws.length < 1000000) (by decide)), a _ _ _ _ q ?_⟩
  exact wr _ (dicC K (kdPut ks k d)) ⟨_, rfl, kd_put (hd _ fa) h2⟩
/-- {k: v, ..} -/
def WPs (K : Fg) (trs : List (TE × TE)) (σ : L2.St) (D : DL) (O : OL) (P : List (V × V) → DL → OL → Prop) : Prop :=
  ∀ H, Hs K D O H → ∀ Q : List (V × V) → Hp → Prop, (∀ ps D' O' H', P ps D' O' → Hs K D' O' H' → Q ps H') → tPairs trs σ H Q
theorem wps_nil {σ : L2.St} {R : List (V × V) → DL → OL → Prop} (k : R [] D O) : WPs K [] σ D O R := fun H hs Q q => q [] D O H k hs
theorem wps_cons {σ : L2.St} {tk tv : TE} {trs : List (TE × TE)} {R : List (V × V) → DL → OL → Prop} (h : WE K tk σ D O fun x D1 O1 => WE K tv σ D1 O1 fun y D2 O2 => WPs K trs σ D2 O2 fun ps D3 O3 => R ((x, y) :: ps) D3 O3) : WPs K ((tk, tv) :: trs) σ D O R := fun H hs Q q =>
  h H hs _ fun _ _ _ H1 k1 s1 => k1 H1 s1 _ fun _ _ _ H2 k2 s2 => k2 H2 s2 _ fun _ D3 O3 H3 k3 s3 => q _ D3 O3 H3 k3 s3
theorem kd_merge {Hi : Hp} {ms : KD} : ∀ {more : List (Key × V)} {acc : List (Key × V)} {ks : KD}, KdOk K Hi more ms → KdOk K Hi acc ks → KdOk K Hi (mergeK acc more) (ms.foldl (fun a x => kdPut a x.1 x.2) ks) := by
  induction ms with
  | nil => intro more acc ks h h'; cases h; exact h'
  | cons m ms ih =>
    intro more acc ks h h'
    cases h with
    | cons r t =>
      show KdOk K Hi (mergeK _ _) _
      unfold mergeK
      rw [List.foldl_cons, List.foldl_cons, r.1]
      exact ih t (kd_put r.2 h')
theorem we_disp {σ : L2.St} {trs : List (TE × TE)} (h : ∀ p, WPs K trs σ D (dicE K p [] :: O) fun ps D1 O1 => ∃ (ws : List (Key × V)) (ms : KD) (O2 : OL), ps = ws.map (fun kv => (kV kv.1, kv.2)) ∧ ws.length ≤ 15 ∧ (∀ Hi, Fa K D1 Hi → KdOk K Hi ws ms) ∧ Imp K D1 O1 D1 (dicE K p [] :: O2) ∧ P (.ref p) D1 (dicE K p (ms.foldl (fun a x => kdPut a x.1 x.2) []) :: O2)) :
    WE K (tDisp trs) σ D O P := fun H hs Q q p hp => h p _ (hs.newO (c := dicC K []) hp fun Hi f => ⟨[], rfl, .nil⟩) _ fun ps D1 O1 H1 ⟨ws, ms, O2, e, hl, hk, im, k⟩ s1 => by
  obtain ⟨o, Hi, h1, ⟨w0, e1, h2⟩, fa, xl, wr⟩ := (im _ s1).front
  cases h2
  subst e1
  exact ⟨h1, ws, e, hl, q _ _ _ _ k (wr _ (dicC K _) ⟨_, rfl, kd_merge (hk _ fa) .nil⟩)⟩
end
end Wp

namespace Wp
open PySem L2

section
variable {K : Fg} {D : DL} {O : OL} {P : V → DL → OL → Prop} {i j : Int} {x y v w : V} {d e : PyData} {ds es : List PyData} {σ : L2.St} {te to : TE} {t : TA} {p : Addr}

/-! ### built-ins by name -/
abbrev rLEN (K : Fg) : List V → Hp → VK → Prop := rcOr (fun xs H Q => ∃ x n, xs = [x] ∧ LenV K x H n ∧ Q (.int (n : Nat)) H) fun xs H Q => ∃ a kvs, xs = [V.ref a] ∧ H a = some (.dK kvs) ∧ Q (.int kvs.length) H
abbrev rLST (K : Fg) : List V → Hp → VK → Prop := fun xs H Q => ∃ p ys, xs = [V.ref p] ∧ (SqL K H p ys ∨ SqT K H p ys) ∧ ∀ l, H l = none → Q (.ref l) (upd H l (.lst ys))
abbrev rTUP (K : Fg) : List V → Hp → VK → Prop := fun xs H Q => ∃ p ys, xs = [V.ref p] ∧ ((SqL K H p ys ∧ ∀ l, H l = none → Q (.ref l) (upd H l (.tup ys))) ∨ (SqT K H p ys ∧ Q (.ref p) H))
abbrev rINT : List V → Hp → VK → Prop := fun xs H Q => (∃ i, xs = [V.int i] ∧ Q (.int i) H) ∨ ∃ k, xs = [V.bl k] ∧ Q (.int (if k then 1 else 0)) H
abbrev rABS : List V → Hp → VK → Prop := fun xs H Q => ∃ i, xs = [V.int i] ∧ Q (.int (if i < 0 then -i else i)) H
abbrev rMAX (K : Fg) : List V → Hp → VK → Prop := rcOr (fun xs H Q => ∃ i j, xs = [V.int i, V.int j] ∧ Q (.int (if j > i then j else i)) H) (L2.rMax K)
abbrev rMIN (K : Fg) : List V → Hp → VK → Prop := rcOr (fun xs H Q => ∃ i j, xs = [V.int i, V.int j] ∧ Q (.int (if j < i then j else i)) H) (L2.rMin K)
abbrev rDIVMOD : List V → Hp → VK → Prop := fun xs H Q => ∃ i j, xs = [V.int i, V.int j] ∧ CDiv i j ∧ ∀ p, H p = none → Q (.ref p) (upd H p (.tup [.int (i / j), .int (i % j)]))
theorem cLEN {X : Cx} : CallR X (.builtin "len") (rLEN X.K) := cr_or2 call_len call_lenD
theorem cMAX {X : Cx} (hc : X.calm = true) : CallR X (.builtin "max") (rMAX X.K) := cr_or2 (call_max2 hc) (cr_max hc)
theorem cMIN {X : Cx} (hc : X.calm = true) : CallR X (.builtin "min") (rMIN X.K) := cr_or2 (call_min2 hc) (cr_min hc)
theorem wc_lenL (h : RdL K D O v ds) (k : P (.int (ds.length : Nat)) D O) : WC K (rLEN K) [v] D O P := wc_l fun H hs Q q => by
  obtain ⟨a, vs, rfl, h1, hl, _⟩ := h.get hs
  exact ⟨_, ds.length, rfl, .inl ⟨vs, h1, hl.symm⟩, q _ D O H k hs⟩
theorem wc_lenT (h : RdT K D O v ds) (k : P (.int (ds.length : Nat)) D O) : WC K (rLEN K) [v] D O P := wc_l fun H hs Q q => by
  obtain ⟨a, vs, rfl, h1, hl, _⟩ := h.get hs
  exact ⟨_, ds.length, rfl, .inr ⟨vs, h1, hl.symm⟩, q _ D O H k hs⟩
theorem wc_lenI {ns : List Int} (h : RdL K D O v (ns.map .int)) (k : P (.int (ns.length : Nat)) D O) : WC K (rLEN K) [v] D O P := wc_lenL h (by rw [List.length_map]; exact k)
theorem wc_lenD {ks : KD} {n : Nat} (h : O[n]? = some (dicE K p ks)) (k : P (.int (ks.length : Nat)) D O) : WC K (rLEN K) [.ref p] D O P := wc_r fun H hs Q q => by
  obtain ⟨o, Hi, h1, ⟨ws, e1, h2⟩, _⟩ := hs.at h
  subst e1
  have hl : ws.length = ks.length := Paired.length h2
  exact ⟨p, ws, rfl, h1, by rw [hl]; exact q _ D O H k hs⟩
/-- what a list that is read entails -/
theorem RdL.hasl (h : RdL K D O v ds) {H : Hp} (hs : Hs K D O H) : ∃ a vs D', v = .ref a ∧ SqL K H a vs ∧ HasL K D' vs ds ∧ Hs K D' O H ∧ ∀ y ∈ D, y ∈ D' := by
  obtain ⟨a, vs, e, h1, hl, h2⟩ := h.get hs
  refine ⟨a, vs, _, e, h1, fun Hi f => zip_all hl fun x hx => f x (List.mem_append_left _ hx), h2, fun y hy => List.mem_append_right _ hy⟩
theorem RdT.hasl (h : RdT K D O v ds) {H : Hp} (hs : Hs K D O H) : ∃ a vs D', v = .ref a ∧ SqT K H a vs ∧ HasL K D' vs ds ∧ Hs K D' O H ∧ ∀ y ∈ D, y ∈ D' := by
  obtain ⟨a, vs, e, h1, hl, h2⟩ := h.get hs
  refine ⟨a, vs, _, e, h1, fun Hi f => zip_all hl fun x hx => f x (List.mem_append_left _ hx), h2, fun y hy => List.mem_append_right _ hy⟩
theorem Hs.less {D' : DL} {H : Hp} (h : Hs K D' O H) (x : ∀ y ∈ D, y ∈ D') : Hs K D O H := h.more fun y hy => has_mem (x y hy)
/-- a new list of what is read -/
theorem new_own {vs : List V} {D' : DL} {H : Hp} {p : Addr} (hv : HasL K D' vs ds) (hs : Hs K D' O H) (sub : ∀ y ∈ D, y ∈ D') (hp : H p = none) : Hs K D (lstE K p ds :: O) (upd H p (.lst vs)) := (hs.newL hp hv).less sub
/-- list(xs) -/
theorem wc_listL (h : RdL K D O v ds) (k : ∀ p, P (.ref p) D (lstE K p ds :: O)) : WC K (rLST K) [v] D O P := fun H hs Q q => by
  obtain ⟨a, vs, D', rfl, h1, hv, h2, sub⟩ := h.hasl hs
  exact ⟨a, vs, rfl, .inl h1, fun l hl => q _ _ _ _ (k l) (new_own hv h2 sub hl)⟩
theorem wc_listT (h : RdT K D O v ds) (k : ∀ p, P (.ref p) D (lstE K p ds :: O)) : WC K (rLST K) [v] D O P := fun H hs Q q => by
  obtain ⟨a, vs, D', rfl, h1, hv, h2, sub⟩ := h.hasl hs
  exact ⟨a, vs, rfl, .inr h1, fun l hl => q _ _ _ _ (k l) (new_own hv h2 sub hl)⟩
theorem wc_tupleL (h : RdL K D O v ds) (k : ∀ p, P (.ref p) ((.ref p, .tuple ds) :: D) O) : WC K (rTUP K) [v] D O P := fun H hs Q q => by
  obtain ⟨a, vs, D', rfl, h1, hv, h2, sub⟩ := h.hasl hs
  refine ⟨a, vs, rfl, .inl ⟨h1, fun l hl => q _ _ _ _ (k l) ((h2.newT hl hv).more fun y hy => ?_)⟩⟩
  rcases List.mem_cons.mp hy with z | z
  · subst z; exact has_mem List.mem_cons_self
  · exact has_mem (List.mem_cons_of_mem _ (sub y z))
theorem wc_int (k : P (.int i) D O) : WC K rINT [.int i] D O P := fun H hs Q q => .inl ⟨i, rfl, q _ D O H k hs⟩
theorem wc_intB {b : Bool} (k : P (.int (if b then 1 else 0)) D O) : WC K rINT [.bl b] D O P := fun H hs Q q => .inr ⟨b, rfl, q _ D O H k hs⟩
theorem wc_abs (k : P (.int (if i < 0 then -i else i)) D O) : WC K rABS [.int i] D O P := fun H hs Q q => ⟨i, rfl, q _ D O H k hs⟩
theorem wc_max2 (k : P (.int (if j > i then j else i)) D O) : WC K (rMAX K) [.int i, .int j] D O P := wc_l fun H hs Q q => ⟨i, j, rfl, q _ D O H k hs⟩
theorem wc_min2 (k : P (.int (if j < i then j else i)) D O) : WC K (rMIN K) [.int i, .int j] D O P := wc_l fun H hs Q q => ⟨i, j, rfl, q _ D O H k hs⟩
theorem wc_max {ns : List Int} (h : RdL K D O v (ns.map .int)) (h0 : 0 < ns.length) (k : ∀ m, m ∈ ns → (∀ y, y ∈ ns → y ≤ m) → P (.int m) D O) : WC K (rMAX K) [v] D O P := wc_r fun H hs Q q => by
  obtain ⟨a, rfl, h1⟩ := h.ints hs
  exact ⟨a, ns, rfl, h1, h0, fun m hm hle => q _ D O H (k m hm hle) hs⟩
theorem wc_min {ns : List Int} (h : RdL K D O v (ns.map .int)) (h0 : 0 < ns.length) (k : ∀ m, m ∈ ns → (∀ y, y ∈ ns → m ≤ y) → P (.int m) D O) : WC K (rMIN K) [v] D O P := wc_r fun H hs Q q => by
  obtain ⟨a, rfl, h1⟩ := h.ints hs
  exact ⟨a, ns, rfl, h1, h0, fun m hm hle => q _ D O H (k m hm hle) hs⟩
theorem wc_sum {ns : List Int} (h : RdL K D O v (ns.map .int)) (k : P (.int ns.sum) D O) : WC K (rSum K) [v] D O P := fun H hs Q q => by
  obtain ⟨a, rfl, h1⟩ := h.ints hs
  exact ⟨a, ns, rfl, h1, q _ D O H k hs⟩
theorem bools_of {bs : List Bool} (h : RdL K D O v (bs.map .bool)) {H : Hp} (hs : Hs K D O H) : ∃ a, v = .ref a ∧ SqL K H a (bs.map V.bl) := by
  have := rdd_list h H hs
  cases this with
  | lst h1 h2 => exact ⟨_, rfl, by rw [← dps_bools h2]; exact h1⟩
theorem wc_all {bs : List Bool} (h : RdL K D O v (bs.map .bool)) (k : P (.bl (bs.all id)) D O) : WC K (L2.rAll K) [v] D O P := fun H hs Q q => by
  obtain ⟨a, rfl, h1⟩ := bools_of h hs
  exact ⟨a, bs, rfl, h1, q _ D O H k hs⟩
theorem wc_any {bs : List Bool} (h : RdL K D O v (bs.map .bool)) (k : P (.bl (bs.any id)) D O) : WC K (L2.rAny K) [v] D O P := fun H hs Q q => by
  obtain ⟨a, rfl, h1⟩ := bools_of h hs
  exact ⟨a, bs, rfl, h1, q _ D O H k hs⟩
theorem wc_divmod (c : CDiv i j) (k : ∀ p, P (.ref p) ((.ref p, .tuple [.int (i / j), .int (i % j)]) :: D) O) : WC K rDIVMOD [.int i, .int j] D O P := fun H hs Q q =>
  ⟨i, j, rfl, c, fun p hp => q _ _ _ _ (k p) (hs.newT hp (hasl_cons has_int (hasl_cons has_int hasl_nil)))⟩
theorem wc_sorted {ns : List Int} (h : RdL K D O v (ns.map .int)) (k : ∀ p (ms : List Int), ms.Perm ns → ms.Pairwise (· ≤ ·) → P (.ref p) D (lstE K p (ms.map .int) :: O)) : WC K (rSortedI K) [v] D O P := fun H hs Q q => by
  obtain ⟨a, rfl, h1⟩ := h.ints hs
  exact ⟨a, ns, rfl, h1, fun ms p hp hw hn => q _ _ _ _ (k p ms hp hw) (hs.newL hn hasl_ints)⟩

/-! ### list + list, slices -/
/-- a new list whose items' facts are told apart from the ledger -/
theorem Hx.newL {fps : List (List Addr)} {H : Hp} {vs : List V} (h : Hx K fps D O H) (hd : DpAll K (cut H fps.flatten) vs ds) (hp : H p = none) : Hs K D (lstE K p ds :: O) (upd H p (.lst vs)) := by
  have hs : Hs K (vs.zip ds ++ D) O H := ⟨fps, h.1, h.2.1, fa_zip hd h.2.2⟩
  refine (hs.newL hp fun Hi f => zip_all (dps_len hd) fun x hx => f x (List.mem_append_left _ hx)).less fun y hy => List.mem_append_right _ hy
theorem wr_cat (h : RdL K D O v ds) (h' : RdL K D O w es) (hl : ds.length + es.length ≤ 1000000) (k : ∀ r, P (.ref r) D (lstE K r (ds ++ es) :: O)) : WR K (rADD K) v w D O P := wr_r (wr_l fun H hs Q z => by
  obtain ⟨fps, hx⟩ := hs
  obtain ⟨a, vs, rfl, s1, hv⟩ := h fps H hx
  obtain ⟨b, ws, rfl, s1', hv'⟩ := h' fps H hx
  have e1 := dps_len hv
  have e2 := dps_len hv'
  exact ⟨a, b, vs, ws, rfl, rfl, s1, s1', Nat.le_trans (by omega : vs.length + ws.length ≤ 1000000) (by decide), fun p hp => z _ _ _ _ (k p) (Hx.newL hx (dps_append hv hv') hp)⟩)
/-- xs[a:b] -/
theorem wsl_list {lo hi : Option Int} (h : RdL K D O v ds) (k : ∀ r, P (.ref r) D (lstE K r ((ds.drop (HT.sIx ds.length 0 lo)).take (HT.sIx ds.length ds.length hi - HT.sIx ds.length 0 lo)) :: O)) : WSl K (rSlL K) v lo hi D O P := fun H hs Q z => by
  obtain ⟨fps, hx⟩ := hs
  obtain ⟨a, vs, rfl, s1, hv⟩ := h fps H hx
  have e1 := dps_len hv
  refine ⟨a, vs, rfl, s1, fun p hp => z _ _ _ _ (k p) (Hx.newL hx ?_ hp)⟩
  unfold cutV
  rw [e1]
  exact dps_take _ (dps_drop _ hv)
theorem we_revL (h : WE K te σ D O fun v D1 O1 => ∃ ds, RdL K D1 O1 v ds ∧ ∀ r, P (.ref r) D1 (lstE K r ds.reverse :: O1)) : WE K (tRevL K te) σ D O P := fun H hs Q q =>
  h H hs _ fun v D1 O1 H1 ⟨ds, hr, k⟩ hs1 => by
    obtain ⟨fps, hx⟩ := hs1
    obtain ⟨a, vs, rfl, s1, hv⟩ := hr fps H1 hx
    exact ⟨a, vs, rfl, s1, fun p hp => q _ _ _ _ (k p) (Hx.newL hx (dps_rev hv) hp)⟩

/-! ### methods of lists -/
theorem we_bm {T : String} {r : V → List V → Hp → VK → Prop} (h : WE K to σ D O fun x D1 O1 => (∀ H, Hs K D1 O1 H → tyV K T x H) ∧ WA K t σ D1 O1 fun vs D2 O2 => WM K r x vs D2 O2 P) : WE K (tBM K T r to t) σ D O P := fun H hs Q q =>
  h H hs _ fun x D1 O1 H1 ⟨ty, k⟩ s1 => ⟨ty H1 s1, k H1 s1 _ fun vs _ _ H2 k2 s2 => k2 H2 s2 Q q⟩
theorem we_bm0 {T : String} {r : V → List V → Hp → VK → Prop} (h : WE K to σ D O fun x D1 O1 => (∀ H, Hs K D1 O1 H → tyV K T x H) ∧ WM K r x [] D1 O1 P) : WE K (tBM0 K T r to) σ D O P := fun H hs Q q =>
  h H hs _ fun x D1 O1 H1 ⟨ty, k⟩ s1 => ⟨ty H1 s1, k H1 s1 Q q⟩
theorem ty_list (h : RdL K D O v ds) : ∀ H, Hs K D O H → tyV K "list" v H := fun H hs => by
  obtain ⟨a, vs, rfl, s1, _⟩ := h.get hs
  exact .inl ⟨rfl, vs, s1⟩
theorem wm_append {n : Nat} (hn : O[n]? = some (lstE K p ds)) (hd : Has K D x d) (hl : ds.length < 1000000) (k : P .non D (O.set n (lstE K p (ds ++ [d])))) : WM K rAppend (.ref p) [x] D O P := fun H hs Q q => by
  obtain ⟨o, Hi, h1, ⟨ws, e1, h2⟩, fa, _, wr⟩ := hs.at hn
  subst e1
  have := dps_len h2
  exact ⟨p, ws, x, rfl, rfl, h1, Nat.lt_of_lt_of_le (by omega : ws.length < 1000000) (by decide), q _ _ _ _ k (wr _ (lstC K (ds ++ [d])) ⟨_, rfl, dps_append h2 (.cons (hd _ fa) .nil)⟩)⟩
end

/-! ### calls of defs -/
abbrev AW := List V → DL → OL → (V → DL → OL → Prop) → Prop
def spW (K : Fg) (n : Nat) (R : AW) : Sp := fun vs H Q _ => vs.length = n ∧ ∃ D O P, R vs D O P ∧ Hs K D O H ∧ ∀ v D' O' H', P v D' O' → Hs K D' O' H' → Q v H'
section
variable {K : Fg} {D : DL} {O : OL} {P : V → DL → OL → Prop} {σ : L2.St} {t : TA} {ts : TS}
theorem we_call {R : AW} {n : Nat} {E : XK} (h : WA K t σ D O fun vs D1 O1 => ∃ D2 O2, Imp K D1 O1 D2 O2 ∧ vs.length = n ∧ R vs D2 O2 P) : WE K (tCall (spW K n R) [] E t) σ D O P := fun H hs Q q =>
  h H hs _ fun vs D1 O1 H1 k s1 => by
    obtain ⟨D2, O2, im, e, k⟩ := k
    show spW K n R (vs ++ []) H1 Q E
    rw [List.append_nil]
    exact ⟨e, D2, O2, P, k, im _ s1, q⟩
theorem we_frz {te : TE} {p : Addr} {ds : List PyData} (h : WE K te σ ((.ref p, .list ds) :: D) O P) : WE K te σ D (lstE K p ds :: O) P := fun H hs => h H hs.freeze
theorem ws_frz {p : Addr} {ds : List PyData} {Q : Po} (h : WS K ts σ ((.ref p, .list ds) :: D) O Q) : WS K ts σ D (lstE K p ds :: O) Q := fun H hs => h H hs.freeze
theorem wa_frz {p : Addr} {ds : List PyData} {Q : List V → DL → OL → Prop} (h : WA K t σ ((.ref p, .list ds) :: D) O Q) : WA K t σ D (lstE K p ds :: O) Q := fun H hs => h H hs.freeze
theorem wt_frz {tt : TT} {p : Addr} {ds : List PyData} {Q : Bool → DL → OL → Prop} (h : WT K tt σ ((.ref p, .list ds) :: D) O Q) : WT K tt σ D (lstE K p ds :: O) Q := fun H hs => h H hs.freeze
theorem wr_frz {r : R2} {x y : V} {p : Addr} {ds : List PyData} (h : WR K r x y ((.ref p, .list ds) :: D) O P) : WR K r x y D (lstE K p ds :: O) P := fun H hs => h H hs.freeze
theorem wc_frz {r : List V → Hp → VK → Prop} {vs : List V} {p : Addr} {ds : List PyData} (h : WC K r vs ((.ref p, .list ds) :: D) O P) : WC K r vs D (lstE K p ds :: O) P := fun H hs => h H hs.freeze
theorem wps_frz {trs : List (TE × TE)} {p : Addr} {ds : List PyData} {Q : List (V × V) → DL → OL → Prop} (h : WPs K trs σ ((.ref p, .list ds) :: D) O Q) : WPs K trs σ D (lstE K p ds :: O) Q := fun H hs => h H hs.freeze
theorem wps_imp {trs : List (TE × TE)} {D' : DL} {O' : OL} {Q : List (V × V) → DL → OL → Prop} (x : Imp K D O D' O') (h : WPs K trs σ D' O' Q) : WPs K trs σ D O Q := fun H hs => h H (x H hs)
/-- what is wanted at a def's end: some of the ledger may be left out -/
def Wk (K : Fg) (P : V → DL → OL → Prop) : V → DL → OL → Prop := fun v D O => ∃ D' O', P v D' O' ∧ Imp K D O D' O'
theorem Wk.of {v : V} (h : P v D O) : Wk K P v D O := ⟨D, O, h, Imp.refl⟩
abbrev Pf (K : Fg) (P : V → DL → OL → Prop) : Po := { nx := fun _ D O => Wk K P .non D O, rt := Wk K P }
theorem body_of {R : AW} {vs : List V} {H : Hp} {Q : VK} {E : XK} (N : List Str) (hb : ∀ D O P, R vs D O P → WS K ts (start N vs) D O (Pf K P)) {n : Nat} (h : spW K n R vs H Q E) : ts { nx := fun _ H' => Q .non H', rt := Q } (start N vs) H := by
  obtain ⟨_, D, O, P, hR, hs, hq⟩ := h
  refine hb D O P hR H hs _ ?_ ?_ ?_ ?_
  · rintro σ' D' O' H' ⟨D2, O2, k, im⟩ s
    exact hq _ _ _ _ k (im _ s)
  · rintro v D' O' H' ⟨D2, O2, k, im⟩ s
    exact hq _ _ _ _ k (im _ s)
  · intro _ _ _ _ z _; exact z
  · intro _ _ _ _ z _; exact z
end
def R_law (K : Fg) : AW := fun vs D O P => ∃ (a : Addr) (ns : List Int), vs = [.ref a] ∧ ns.length ≤ 63 ∧ D = [(.ref a, dI ns)] ∧ O = [] ∧ P = fun v _ _ => v = .bl true
theorem law_start {K : Fg} {H : Hp} {a : Addr} {ns : List Int} {E : XK} (hl : ns.length ≤ 63) (hS : SqL K H a (ns.map V.int)) : spW K 1 (R_law K) [.ref a] H (fun v _ => v = .bl true) E := by
  refine ⟨rfl, _, _, _, ⟨a, ns, rfl, hl, rfl, rfl, rfl⟩, ⟨[], List.nodup_nil, .nil, fun x hx => ?_⟩, fun v D' O' H' h _ => h⟩
  rw [List.mem_singleton.mp hx]
  have e : cut H ([] : List (List Addr)).flatten = H := by
    funext b
    exact cut_out (by simp)
  rw [e]
  exact .lst hS (dps_of_ints ns)
theorem fun_lk {K : Fg} {x qual : Str} {params : Arguments} {body : List Stmt} {scope : Scope} {dvs : List V} {kws : List (Str × V)} {f : Addr} {fd : FuncData} (F : FunD K x qual params body scope dvs kws f fd) : ∃ oc od osl, K.lookup f = some ⟨oc, od, .func fd, osl⟩ := by
  obtain ⟨oc, od, dV, kV, doc, pm, an, cdv, ct, osl, rfl, lk, _⟩ := F.ex
  exact ⟨oc, od, osl, lk⟩
theorem fd_eq {K : Fg} {f : Addr} {fd fd' : FuncData} (h : ∃ oc od osl, K.lookup f = some ⟨oc, od, .func fd, osl⟩) (h' : ∃ oc od osl, K.lookup f = some ⟨oc, od, .func fd', osl⟩) : fd = fd' := by
  obtain ⟨oc, od, osl, e⟩ := h
  obtain ⟨oc', od', osl', e'⟩ := h'
  rw [e] at e'
  cases e'
  rfl
def OkF (P : Program) (w : World) (K : Fg) (mg : Str → Option Value) (base : Heap) (k : Nat) (x : Str) (ps : List Str) (R : AW) : Prop :=
  ∃ fd, FnOk P w K mg base CX0 k (He.ga K x) fd ps (spW K ps.length R) ∧ Binds K fd ps [] ∧ PySem.W.keepIn K (.ref (He.ga K x)) = true ∧ mg x = some (.ref (He.ga K x)) ∧ ∃ oc od osl, K.lookup (He.ga K x) = some ⟨oc, od, .func fd, osl⟩
abbrev tTru (K : Fg) (te : TE) : TT := fun σ H Q => te σ H fun x H' => ∃ k, TruV K x H' k ∧ Q k H'
theorem pe_globI {X : Cx} {x : Str} {i : Int} {pos : Pos} (hg : Gl X x) (h : ∃ t, X.mg x = some (.int i t)) (hd : (x == ("__debug__" : Str)) = false := by decide) : PE X (.Name x pos) (tC (.int i)) := by
  obtain ⟨t, e⟩ := h
  exact pe_glob hg e ⟨t, rfl⟩ hd
theorem pe_globS {X : Cx} {x z : Str} {pos : Pos} (hg : Gl X x) (h : ∃ t, X.mg x = some (.str z t)) (hd : (x == ("__debug__" : Str)) = false := by decide) : PE X (.Name x pos) (tC (.str z)) := by
  obtain ⟨t, e⟩ := h
  exact pe_glob hg e ⟨t, rfl⟩ hd
end Wp

namespace Wp
open PySem L2
/-! ### branches -/
theorem if_dec {p A B : Prop} [Decidable p] (h1 : p → A) (h2 : ¬ p → B) : if decide p = true then A else B := by
  by_cases h : p
  · simp only [h, decide_true, if_true]; exact h1 h
  · simp only [h, decide_false]; exact h2 h
theorem if_ndec {p A B : Prop} [Decidable p] (h1 : ¬ p → A) (h2 : p → B) : if (!decide p) = true then A else B := by
  by_cases h : p
  · simp only [h, decide_true, Bool.not_true]; exact h2 h
  · simp only [h, decide_false, Bool.not_false, if_true]; exact h1 h
theorem if_b {b : Bool} {A B : Prop} (h1 : b = true → A) (h2 : b = false → B) : if b = true then A else B := by
  cases b with
  | true => exact h1 rfl
  | false => exact h2 rfl
theorem if_t {A B : Prop} (h : A) : if true = true then A else B := h
theorem if_f {A B : Prop} (h : B) : if false = true then A else B := h

theorem lst_go {K : Fg} {D : DL} {vs : List V} {ds : List PyData} {A : List PyData → Prop} (h1 : vs.length ≤ 1000000) (h2 : HasL K D vs ds) (h3 : A ds) : vs.length ≤ 1000000 ∧ ∃ ds, HasL K D vs ds ∧ A ds := ⟨h1, ds, h2, h3⟩
section
variable {K : Fg} {D : DL} {O : OL} {σ : L2.St} {t u rest : TS} {P : Po} {b : Bool} {r : V → DL → OL → Prop} {bk ct : L2.St → DL → OL → Prop}
/-- two ways meet -/
theorem if_join (M : L2.St → DL → OL → Prop) (h : if b = true then WS K t σ D O ⟨Nx K M, r, bk, ct⟩ else WS K u σ D O ⟨Nx K M, r, bk, ct⟩) (k : ∀ σ' D' O', M σ' D' O' → WS K rest σ' D' O' P) :
    if b = true then WS K t σ D O ⟨fun σ1 D1 O1 => WS K rest σ1 D1 O1 P, r, bk, ct⟩ else WS K u σ D O ⟨fun σ1 D1 O1 => WS K rest σ1 D1 O1 P, r, bk, ct⟩ := by
  have go : ∀ {v : TS}, WS K v σ D O ⟨Nx K M, r, bk, ct⟩ → WS K v σ D O ⟨fun σ1 D1 O1 => WS K rest σ1 D1 O1 P, r, bk, ct⟩ := fun w H hs E a b c d =>
    w H hs E (fun σ' D' O' H' ⟨D2, O2, m, im⟩ s => a σ' D' O' H' (ws_imp im (k _ _ _ m)) s) b c d
  cases b with
  | true => exact go h
  | false => exact go h
theorem ws_cut (M : L2.St → DL → OL → Prop) (h : WS K t σ D O ⟨Nx K M, P.rt, P.bk, P.ct⟩) (k : ∀ σ' D' O', M σ' D' O' → WS K rest σ' D' O' P) : WS K (tSeq t rest) σ D O P :=
  ws_seq fun H hs E a b c d => h H hs E (fun σ' D' O' H' ⟨D2, O2, m, im⟩ s => a σ' D' O' H' (ws_imp im (k _ _ _ m)) s) b c d
theorem imp_d1 {a : V × PyData} : Imp K (a :: D) O D O := imp_sub fun y h => List.mem_cons_of_mem _ h
theorem imp_dd {a : V × PyData} {D' : DL} {O' : OL} (h : Imp K D O D' O') : Imp K (a :: D) O D' O' := imp_d1.trans h
end
theorem has_hd {K : Fg} {D : DL} {v : V} {d : PyData} : Has K ((v, d) :: D) v d := has_mem List.mem_cons_self
theorem has_up {K : Fg} {D : DL} {x : V × PyData} {v : V} {d : PyData} (h : Has K D v d) : Has K (x :: D) v d := fun Hi f => h Hi fun y hy => f y (List.mem_cons_of_mem _ hy)
theorem rdl_up {K : Fg} {D : DL} {O : OL} {x : V × PyData} {v : V} {ds : List PyData} (h : RdL K D O v ds) : RdL K (x :: D) O v ds := fun fps H ⟨a, b, c⟩ => h fps H ⟨a, b, fun y hy => c y (List.mem_cons_of_mem _ hy)⟩
theorem rdt_up {K : Fg} {D : DL} {O : OL} {x : V × PyData} {v : V} {ds : List PyData} (h : RdT K D O v ds) : RdT K (x :: D) O v ds := fun fps H ⟨a, b, c⟩ => h fps H ⟨a, b, fun y hy => c y (List.mem_cons_of_mem _ hy)⟩
/-! ### entries by their places -/
section
variable {a b c d e : Ent} {O : OL}
theorem pm0 : (a :: O).Perm (a :: O) := List.Perm.refl _
theorem pm1 : (b :: a :: O).Perm (a :: b :: O) := List.Perm.swap _ _ _
theorem pm2 : (b :: c :: a :: O).Perm (a :: b :: c :: O) := (List.Perm.cons _ pm1).trans pm1
theorem pm3 : (b :: c :: d :: a :: O).Perm (a :: b :: c :: d :: O) := (List.Perm.cons _ pm2).trans pm1
theorem pm4 : (b :: c :: d :: e :: a :: O).Perm (a :: b :: c :: d :: e :: O) := (List.Perm.cons _ pm3).trans pm1
end

/-! ### the pen -/
abbrev penK (c : List Int) (t l : Int) : KD := [(.inr "cells", dI c), (.inr "turn", .int t), (.inr "left", .int l)]
structure Pen (n : Nat) where
  c : List Int
  t : Int
  l : Int
  hc : c.length ≤ 63
  ht : 0 ≤ t
  hn : t ≤ n
  hl : 0 ≤ l
/-- the pen, with at most n cells begun -/
def PenE (K : Fg) (p : Addr) (n : Nat) : Ent := exE fun q : Pen n => dicE K p (penK q.c q.t q.l)
theorem pen_cells {c : List Int} {t l : Int} : kdGet (penK c t l) (.inr "cells") = some (dI c) := rfl
theorem key_tc : ¬ ((Sum.inr ("turn" : Str) : Key) = Sum.inr ("cells" : Str)) := by decide +kernel
theorem key_ct : ¬ ((Sum.inr ("cells" : Str) : Key) = Sum.inr ("turn" : Str)) := by decide +kernel
theorem key_cl : ¬ ((Sum.inr ("cells" : Str) : Key) = Sum.inr ("left" : Str)) := by decide +kernel
theorem key_tl : ¬ ((Sum.inr ("turn" : Str) : Key) = Sum.inr ("left" : Str)) := by decide +kernel
theorem key_lc : ¬ ((Sum.inr ("left" : Str) : Key) = Sum.inr ("cells" : Str)) := by decide +kernel
theorem key_lt : ¬ ((Sum.inr ("left" : Str) : Key) = Sum.inr ("turn" : Str)) := by decide +kernel
theorem pen_turn {c : List Int} {t l : Int} : kdGet (penK c t l) (.inr "turn") = some (.int t) := by
  simp only [kdGet, List.find?_cons, decide_eq_false key_ct, decide_true, Option.map_some]
theorem pen_left {c : List Int} {t l : Int} : kdGet (penK c t l) (.inr "left") = some (.int l) := by
  simp only [kdGet, List.find?_cons, decide_eq_false key_cl, decide_eq_false key_tl, decide_true, Option.map_some]
theorem put_turn {c : List Int} {t l x : Int} : kdPut (penK c t l) (.inr "turn") (.int x) = penK c x l := by
  simp only [kdPut, List.any_cons, List.map_cons, List.map_nil, decide_eq_false key_ct, decide_eq_false key_lt, decide_true, Bool.true_or, Bool.or_true, if_true, if_neg key_ct, if_neg key_lt]
theorem put_left {c : List Int} {t l x : Int} : kdPut (penK c t l) (.inr "left") (.int x) = penK c t x := by
  simp only [kdPut, List.any_cons, List.map_cons, List.map_nil, decide_eq_false key_cl, decide_eq_false key_tl, decide_true, Bool.true_or, Bool.or_true, if_true, if_neg key_cl, if_neg key_tl]
theorem pen_made {c : List Int} : List.foldl (fun (a : KD) x => kdPut a x.1 x.2) [] (penK c 0 0) = penK c 0 0 := by
  simp only [List.foldl_cons, List.foldl_nil, kdPut, List.any_cons, List.any_nil, List.nil_append, List.cons_append, decide_eq_false key_ct, decide_eq_false key_cl, decide_eq_false key_tl, Bool.false_or, Bool.or_false, Bool.false_eq_true, if_false]
section
variable {K : Fg} {D : DL} {O : OL} {σ : L2.St} {P : V → DL → OL → Prop} {Q : Po} {p : Addr} {c : List Int} {t l x : Int} {td ty tv : TE}
theorem we_pen {k : Str} {d : PyData} {ta tb : TE} (h : WE K ta σ D O fun y D1 O1 => WE K tb σ D1 O1 fun z D2 O2 => ∃ (p : Addr) (c : List Int) (t l : Int) (O3 : OL) (k : Str) (d : PyData), y = .ref p ∧ z = .str k ∧ O2 = dicE K p (penK c t l) :: O3 ∧ kdGet (penK c t l) (.inr k) = some d ∧ Gv d D2 fun v D' => P v D' O2) : WE K (tDGet ta tb) σ D O P :=
  we_dget fun H hs R q => h H hs R fun y D1 O1 H1 k1 s1 => q y D1 O1 H1 (fun H2 hs2 R2 q2 => k1 H2 hs2 R2 fun z D2 O2 H3 ⟨p, c, t, l, O3, k, d, e1, e2, e3, e4, g⟩ s3 => q2 z D2 O2 H3 ⟨p, penK c t l, .inr k, 0, d, e1, by rw [e3]; rfl, e2, e4, g⟩ s3) s1
theorem imp_pen {n : Nat} (h : c.length ≤ 63) (ht : 0 ≤ t) (hn : t ≤ n) (hl : 0 ≤ l) : Imp K D (dicE K p (penK c t l) :: O) D (PenE K p n :: O) := imp_close (f := fun q : Pen n => dicE K p (penK q.c q.t q.l)) ⟨c, t, l, h, ht, hn, hl⟩
theorem imp_penle {n m : Nat} (h : n ≤ m) : Imp K D (PenE K p n :: O) D (PenE K p m :: O) := fun H hs => by
  obtain ⟨q, hq⟩ := hs.open
  exact imp_pen q.hc q.ht (Int.le_trans q.hn (by omega)) q.hl H hq
theorem ws_pen {ts : TS} {n : Nat} (h : ∀ (c : List Int) (t l : Int), c.length ≤ 63 → 0 ≤ t → t ≤ n → 0 ≤ l → WS K ts σ D (dicE K p (penK c t l) :: O) Q) : WS K ts σ D (PenE K p n :: O) Q := ws_open fun q => h q.c q.t q.l q.hc q.ht q.hn q.hl
theorem ws_putT {O' : OL} {m : Int} (h : WE K tv σ D O fun v D1 O1 => WE K td σ D1 O1 fun y D2 O2 => WE K ty σ D2 O2 fun z D3 O3 => ∃ (p : Addr) (c : List Int) (t l x : Int) (O4 : OL), v = .int x ∧ y = .ref p ∧ z = .str "turn" ∧ O3 = dicE K p (penK c t l) :: O4 ∧ Q.nx σ D3 (dicE K p (penK c x l) :: O4)) : WS K (sDPut td ty tv) σ D O Q :=
  ws_dput fun H hs R q => h H hs R fun v D1 O1 H1 k1 s1 => q v D1 O1 H1 (fun H2 hs2 R2 q2 => k1 H2 hs2 R2 fun y D2 O2 H3 k2 s3 => q2 y D2 O2 H3 (fun H4 hs4 R4 q4 => k2 H4 hs4 R4 fun z D3 O3 H5 ⟨p, c, t, l, x, O4, e1, e2, e3, e4, k⟩ s5 => q4 z D3 O3 H5 (by
    subst e1 e2 e3 e4
    exact ⟨p, penK c t l, .inr "turn", 0, .int x, rfl, rfl, rfl, has_int, by show 3 < 1000000; decide, by rw [put_turn]; exact k⟩) s5) s3) s1
theorem ws_putL (h : WE K tv σ D O fun v D1 O1 => WE K td σ D1 O1 fun y D2 O2 => WE K ty σ D2 O2 fun z D3 O3 => ∃ (p : Addr) (c : List Int) (t l x : Int) (O4 : OL), v = .int x ∧ y = .ref p ∧ z = .str "left" ∧ O3 = dicE K p (penK c t l) :: O4 ∧ Q.nx σ D3 (dicE K p (penK c t x) :: O4)) : WS K (sDPut td ty tv) σ D O Q :=
  ws_dput fun H hs R q => h H hs R fun v D1 O1 H1 k1 s1 => q v D1 O1 H1 (fun H2 hs2 R2 q2 => k1 H2 hs2 R2 fun y D2 O2 H3 k2 s3 => q2 y D2 O2 H3 (fun H4 hs4 R4 q4 => k2 H4 hs4 R4 fun z D3 O3 H5 ⟨p, c, t, l, x, O4, e1, e2, e3, e4, k⟩ s5 => q4 z D3 O3 H5 (by
    subst e1 e2 e3 e4
    exact ⟨p, penK c t l, .inr "left", 0, .int x, rfl, rfl, rfl, has_int, by show 3 < 1000000; decide, by rw [put_left]; exact k⟩) s5) s3) s1
end
section
variable {K : Fg} {D : DL} {O : OL} {σ : L2.St} {P : V → DL → OL → Prop} {Q : Po} {p : Addr} {c : List Int} {t l x : Int} {td ty tv : TE} {i : Nat}
theorem pn_left (h : σ[i]? = some (some (.ref p))) (k : P (.int l) D (dicE K p (penK c t l) :: O)) : WE K (tDGet (tVar i) (tC (.str "left"))) σ D (dicE K p (penK c t l) :: O) P :=
  we_dget (we_var h (we_c ⟨p, _, .inr "left", 0, .int l, rfl, rfl, rfl, pen_left, k⟩))
theorem pn_turn (h : σ[i]? = some (some (.ref p))) (k : P (.int t) D (dicE K p (penK c t l) :: O)) : WE K (tDGet (tVar i) (tC (.str "turn"))) σ D (dicE K p (penK c t l) :: O) P :=
  we_dget (we_var h (we_c ⟨p, _, .inr "turn", 0, .int t, rfl, rfl, rfl, pen_turn, k⟩))
theorem pn_cells (h : σ[i]? = some (some (.ref p))) (k : ∀ v, P v ((v, dI c) :: D) (dicE K p (penK c t l) :: O)) : WE K (tDGet (tVar i) (tC (.str "cells"))) σ D (dicE K p (penK c t l) :: O) P :=
  we_dget (we_var h (we_c ⟨p, _, .inr "cells", 0, dI c, rfl, rfl, rfl, pen_cells, k⟩))
theorem pn_putL (h : σ[i]? = some (some (.ref p))) (k : WE K tv σ D (dicE K p (penK c t l) :: O) fun v D1 O1 => ∃ x, v = .int x ∧ O1 = dicE K p (penK c t l) :: O ∧ Q.nx σ D1 (dicE K p (penK c t x) :: O)) : WS K (sDPut (tVar i) (tC (.str "left")) tv) σ D (dicE K p (penK c t l) :: O) Q :=
  (ws_putL fun H hs R q => k H hs R fun v D1 O1 H1 ⟨x, e1, e2, k1⟩ s1 => q v D1 O1 H1 (we_var h (we_c ⟨p, c, t, l, x, O, e1, rfl, rfl, e2, k1⟩)) s1)
theorem pn_putT (h : σ[i]? = some (some (.ref p))) (k : WE K tv σ D (dicE K p (penK c t l) :: O) fun v D1 O1 => ∃ x, v = .int x ∧ O1 = dicE K p (penK c t l) :: O ∧ Q.nx σ D1 (dicE K p (penK c x l) :: O)) : WS K (sDPut (tVar i) (tC (.str "turn")) tv) σ D (dicE K p (penK c t l) :: O) Q :=
  (ws_putT (m := 0) (O' := O) fun H hs R q => k H hs R fun v D1 O1 H1 ⟨x, e1, e2, k1⟩ s1 => q v D1 O1 H1 (we_var h (we_c ⟨p, c, t, l, x, O, e1, rfl, rfl, e2, k1⟩)) s1)
end
theorem wr_p18 {K : Fg} {D : DL} {O : OL} {P : V → DL → OL → Prop} (k : P (.int 1000000000000000000) D O) : WR K rPOW (.int 10) (.int 18) D O P := wr_pow ⟨by decide, by decide, by decide⟩ k
/-- an int of a written menu -/
theorem wr_ixM {K : Fg} {D : DL} {O : OL} {P : V → DL → OL → Prop} {v : V} {i : Int} {ns : List Int} (p : Int → Prop) (h : RdL K D O v (ns.map .int)) (h0 : 0 ≤ i) (h1 : i < ns.length) (hp : ∀ x ∈ ns, p x) (k : ∀ x, p x → P (.int x) D O) : WR K (L2.rIx K) v (.int i) D O P :=
  wr_ixI h h0 h1 (k _ (hp _ (getD_mem h0 h1)))
/-! bounds of the operators' wants -/
abbrev maxN : Nat := 1000000000000000
theorem abs_lt {x : Int} {n : Nat} (h0 : -(2 ^ n : Nat) < x) (h1 : x < (2 ^ n : Nat)) : x.natAbs < 2 ^ n := by omega
theorem pen_small {t : Int} {n : Nat} (h0 : 0 ≤ t) (h : t ≤ n) (hn : n < maxN) : t.natAbs < 2 ^ 64 := by
  have : (2 : Nat) ^ 64 = 18446744073709551616 := by decide
  unfold maxN at hn
  omega
theorem cmulx_of {i j : Int} {a b : Nat} (hi : i.natAbs < 2 ^ a) (hj : j.natAbs < 2 ^ b) (ha : 0 < a) (hb : 0 < b) (h : a + b ≤ 1000000) : CMulX i j := by
  have h1 : CMulW i j := wide_mul hi hj ha hb h
  have bb : ∀ x : Int, Builtin.Int.intBits x ≤ x.natAbs.log2 + 1 := fun x => by
    unfold Builtin.Int.intBits
    split <;> omega
  have h2 : i.natAbs.log2 + j.natAbs.log2 < 1000000 := h1
  have h3 := bb i
  have h4 := bb j
  unfold CMulX
  omega
theorem intBits_le {x : Int} {a : Nat} (h : x.natAbs < 2 ^ a) (ha : 0 < a) : Builtin.Int.intBits x ≤ a := by
  have h1 : x.natAbs.log2 < a := PySem.Flt.log2_lt_of ha h
  unfold Builtin.Int.intBits
  split <;> omega
/-! ### isinstance of scalars -/
section
variable {K : Fg} {D : DL} {O : OL} {P : V → DL → OL → Prop} {v : V} {i : Int} {ds : List PyData}
theorem wc_isi {x : V} {t : String} {a : String} {b : Bool} (ht : ∀ H, TyX K H x (.type t)) (h : kitB t a = some b) (k : P (.bl b) D O) : WC K (rIsi K) [x, .ty a] D O P := fun H hs Q q =>
  ⟨x, .ty a, .type t, .type a, b, rfl, .ty a, ht H, kit_ty h, q _ D O H k hs⟩
theorem wc_isi_ii (k : P (.bl true) D O) : WC K (rIsi K) [.int i, .ty "int"] D O P := wc_isi (fun H => .base (.int i)) (by decide +kernel) k
theorem wc_isi_ib (k : P (.bl false) D O) : WC K (rIsi K) [.int i, .ty "bool"] D O P := wc_isi (fun H => .base (.int i)) (by decide +kernel) k
theorem wc_isi_bi {c : Bool} (k : P (.bl true) D O) : WC K (rIsi K) [.bl c, .ty "int"] D O P := wc_isi (fun H => .base (.bl c)) (by decide +kernel) k
theorem wc_isi_bb {c : Bool} (k : P (.bl true) D O) : WC K (rIsi K) [.bl c, .ty "bool"] D O P := wc_isi (fun H => .base (.bl c)) (by decide +kernel) k
theorem wc_isi_ni (k : P (.bl false) D O) : WC K (rIsi K) [.non, .ty "int"] D O P := wc_isi (fun H => .base .non) (by decide +kernel) k
theorem wc_isi_si {z : Str} (k : P (.bl false) D O) : WC K (rIsi K) [.str z, .ty "int"] D O P := wc_isi (fun H => .base (.str z)) (by decide +kernel) k
/-- a datum picked of a list that is read -/
theorem wr_ixD {n : Nat} {d : PyData} (h : RdL K D O v ds) (h0 : 0 ≤ i) (h1 : i < ds.length) (k : ∀ d ∈ ds, Gv d D fun v D' => P v D' O) : WR K (L2.rIx K) v (.int i) D O P := by
  have hn : i.toNat < ds.length := by omega
  exact wr_xL (wr_ixL (n := i.toNat) (d := ds[i.toNat]) h (ixN_nat h0 rfl hn) (List.getElem?_eq_getElem hn) (k _ (List.getElem_mem hn)))
end
theorem Gv.imp {D : DL} {d : PyData} {k k' : V → DL → Prop} (g : Gv d D k) (h : ∀ v D', k v D' → k' v D') : Gv d D k' := by
  cases d with
  | int n => exact h _ _ g
  | bool b => exact h _ _ g
  | none => exact h _ _ g
  | str s => exact h _ _ g
  | list l => exact fun v => h _ _ (g v)
  | tuple l => exact fun v => h _ _ (g v)
  | dict l => exact fun v => h _ _ (g v)
section
variable {K : Fg} {D : DL} {O : OL} {P : V → DL → OL → Prop} {v : V} {ds : List PyData} {ns : List Int} {i j : Int}
theorem sIx_pos {n d : Nat} (h : 0 ≤ i) : HT.sIx n d (some i) = min i.toNat n := by
  show (if i < 0 then (i + (n : Int)).toNat else min i.toNat n) = min i.toNat n
  rw [if_neg (by omega)]
/-- xs[:i], xs[i:] -/
theorem wsl_to (h : RdL K D O v ds) (h0 : 0 ≤ i) (k : ∀ r, P (.ref r) D (lstE K r (ds.take i.toNat) :: O)) : WSl K (rSlL K) v none (some i) D O P := by
  refine wsl_list h fun r => ?_
  have e : ((ds.drop (HT.sIx ds.length 0 none)).take (HT.sIx ds.length ds.length (some i) - HT.sIx ds.length 0 none)) = ds.take i.toNat := by
    rw [sIx_pos h0, show HT.sIx ds.length 0 none = 0 from rfl, List.drop_zero, Nat.sub_zero]
    by_cases hl : i.toNat ≤ ds.length
    · rw [Nat.min_eq_left hl]
    · rw [Nat.min_eq_right (by omega), List.take_length, List.take_of_length_le (by omega)]
  rw [e]
  exact k r
theorem wsl_from (h : RdL K D O v ds) (h0 : 0 ≤ i) (k : ∀ r, P (.ref r) D (lstE K r (ds.drop i.toNat) :: O)) : WSl K (rSlL K) v (some i) none D O P := by
  refine wsl_list h fun r => ?_
  have e : ((ds.drop (HT.sIx ds.length 0 (some i))).take (HT.sIx ds.length ds.length none - HT.sIx ds.length 0 (some i))) = ds.drop i.toNat := by
    rw [sIx_pos h0, show HT.sIx ds.length ds.length none = ds.length from rfl]
    by_cases hl : i.toNat ≤ ds.length
    · rw [Nat.min_eq_left hl, List.take_of_length_le (by rw [List.length_drop]; omega)]
    · rw [Nat.min_eq_right (by omega), Nat.sub_self, List.take_zero, List.drop_eq_nil_of_le (by omega)]
  rw [e]
  exact k r
theorem wsl_toI (h : RdL K D O v (ns.map .int)) (h0 : 0 ≤ i) (k : ∀ r, P (.ref r) D (lstE K r ((ns.take i.toNat).map .int) :: O)) : WSl K (rSlL K) v none (some i) D O P :=
  wsl_to h h0 fun r => by rw [← List.map_take]; exact k r
theorem wsl_fromI (h : RdL K D O v (ns.map .int)) (h0 : 0 ≤ i) (k : ∀ r, P (.ref r) D (lstE K r ((ns.drop i.toNat).map .int) :: O)) : WSl K (rSlL K) v (some i) none D O P :=
  wsl_from h h0 fun r => by rw [← List.map_drop]; exact k r
end
section
variable {D : DL} {ds es : List PyData} {k : List V → DL → Prop} {n : Int} {b : Bool}
theorem gvs_n (h : k [] D) : Gvs [] D k := h
theorem gvs_i (h : Gvs ds D fun vs D1 => k (.int n :: vs) D1) : Gvs (.int n :: ds) D k := h
theorem gvs_b (h : Gvs ds D fun vs D1 => k (.bl b :: vs) D1) : Gvs (.bool b :: ds) D k := h
theorem gvs_d (h : ∀ v, Gvs ds ((v, .list es) :: D) fun vs D1 => k (v :: vs) D1) : Gvs (.list es :: ds) D k := h
end
section
variable {K : Fg} {D : DL} {O : OL} {σ : L2.St} {P : V → DL → OL → Prop} {to : TE} {t : TA}
/-- xs.append(x), xs owned -/
theorem we_app {r : V → List V → Hp → VK → Prop} (hr : r = rAppend) (h : WE K to σ D O fun x D1 O1 => ∃ (p : Addr) (ds : List PyData), x = .ref p ∧ RdL K D1 O1 (.ref p) ds ∧ WA K t σ D1 O1 fun vs D2 O2 => ∃ (n : Nat) (y : V) (d : PyData), vs = [y] ∧ O2[n]? = some (lstE K p ds) ∧ Has K D2 y d ∧ ds.length < 1000000 ∧ P .non D2 (O2.set n (lstE K p (ds ++ [d])))) : WE K (tBM K "list" r to t) σ D O P :=
  we_bm fun H hs Q q => h H hs Q fun x D1 O1 H1 ⟨p, ds, e, hr1, k⟩ s1 => q x D1 O1 H1 ⟨by rw [e]; exact ty_list hr1, fun H2 hs2 R r2 => k H2 hs2 R fun vs D2 O2 H3 ⟨n, y, d, e2, hn, hd, hl, kk⟩ s3 => r2 vs D2 O2 H3 (by
    subst e e2 hr
    exact wm_append hn hd hl kk) s3⟩ s1
end
section
variable {K : Fg} {D : DL} {O : OL} {P : V → DL → OL → Prop} {v w : V} {ns ms : List Int}
theorem wr_catI (h : RdL K D O v (ns.map .int)) (h' : RdL K D O w (ms.map .int)) (hl : ns.length + ms.length ≤ 1000000) (k : ∀ r, P (.ref r) D (lstE K r ((ns ++ ms).map .int) :: O)) : WR K (rADD K) v w D O P :=
  wr_cat h h' (by rw [List.length_map, List.length_map]; exact hl) fun r => by rw [← List.map_append]; exact k r
end
theorem if_no {b : Bool} {A B : Prop} (h : b = false) (k : B) : if b = true then A else B := by subst h; exact k
theorem if_yes {b : Bool} {A B : Prop} (h : b = true) (k : A) : if b = true then A else B := by subst h; exact k
theorem gv_i {D : DL} {n : Int} {k : V → DL → Prop} (h : k (.int n) D) : Gv (.int n) D k := h
section
variable {K : Fg} {D : DL} {O : OL} {σ : L2.St} {te : TE} {P : Bool → DL → OL → Prop}
theorem wt_truB (h : WE K te σ D O fun v D1 O1 => ∃ b, v = .bl b ∧ P b D1 O1) : WT K (tTru K te) σ D O P :=
  wt_truth fun H hs Q q => h H hs Q fun v D1 O1 H1 ⟨b, e, k⟩ s1 => q v D1 O1 H1 (fun H2 _ => ⟨b, by subst e; exact rfl, k⟩) s1
end
theorem if_nne {p A B : Prop} [Decidable p] (h : p) (k : B) : if (!decide p) = true then A else B := by simp only [h, decide_true, Bool.not_true]; exact k
theorem if_ne {p A B : Prop} [Decidable p] (h : ¬ p) (k : B) : if decide p = true then A else B := by simp only [h, decide_false]; exact k
section
variable {K : Fg} {D : DL} {O : OL} {σ : L2.St} {P : Po} {tt : TT} {t : TS}
/-- if not so: return False -/
theorem ws_skip (h : WT K tt σ D O fun b D1 O1 => b = false ∧ Imp K D1 O1 D O) (k : P.nx σ D O) : WS K (tIfS tt t tNext) σ D O P :=
  ws_if fun H hs Q q => h H hs Q fun b D1 O1 H1 ⟨e, im⟩ s1 => q b D1 O1 H1 (by
    subst e
    exact ws_imp im (ws_next k)) s1
/-- ints of a range, frozen -/
theorem we_lcF {ta : TA} {g : TG} {te : TE} {vs : List Nat} {Pv : V → DL → OL → Prop} (f : Nat → Int) (ms : List Int)
    (h : WA K ta σ D O fun ws D1 O1 => ∃ j : Int, ws = [.int j] ∧ j ≤ 1000000 ∧ -(2 ^ 62) ≤ j ∧ (List.range j.toNat).map f = ms ∧
      (∀ i p acc, i < j.toNat → WG K g (.int (i : Nat)) (wipe σ vs) D1 (lstE K p acc :: O1) fun σ3 D3 O3 => wipe σ3 vs = wipe σ vs ∧ WE K te σ3 D3 O3 fun y D5 O5 => y = .int (f i) ∧ Imp K D5 O5 D1 (lstE K p acc :: O1)) ∧
      ∀ p, Pv (.ref p) ((.ref p, dI ms) :: D1) O1) : WE K (tLc (iRng1 ta) g tYes te vs) σ D O Pv := fun H hs Q q =>
  we_lcR1I (Pv := fun v D1 O1 => ∃ p D0 O0, v = .ref p ∧ D1 = D0 ∧ O1 = lstE K p (ms.map .int) :: O0 ∧ Pv (.ref p) ((.ref p, dI ms) :: D0) O0) f (fun H hs Q q => h H hs Q fun ws D1 O1 H1 ⟨j, e, h1, h2, e2, turn, done⟩ s1 => q ws D1 O1 H1 ⟨j, e, h1, h2, turn, fun p => ⟨p, D1, O1, rfl, rfl, by rw [e2], done p⟩⟩ s1) H hs Q fun v D1 O1 H1 ⟨p, D0, O0, e1, e2, e3, k⟩ s1 => by
    subst e1 e2 e3
    exact q _ _ _ _ k s1.freeze
end
end Wp

namespace Wp
open PySem L2

/-! ### what is walked: ints -/
/-- J yields the ints xs, while S holds of the facts -/
def Src (K : Fg) (J : It) (xs : List Int) (S : DL → Prop) : Prop := ∀ D O H, S D → Hs K D O H →
  (∀ i (h : i < xs.length), J.go i H ∧ ∀ x H2, J.yld i H x H2 → x = .int xs[i] ∧ H2 = H) ∧ J.stop xs.length H
def WI (K : Fg) (wi : TI) (σ : L2.St) (D : DL) (O : OL) (P : List Int → (DL → Prop) → DL → OL → Prop) : Prop :=
  ∀ H, Hs K D O H → ∀ R : It → Hp → Prop, (∀ J xs S D1 O1 H1, P xs S D1 O1 → Hs K D1 O1 H1 → Src K J xs S → R J H1) → wi σ H R
section
variable {K : Fg} {D : DL} {O : OL} {σ : L2.St} {g : TG} {P : List Int → (DL → Prop) → DL → OL → Prop} {Q : Po}
def rInts (lo : Int) (n : Nat) : List Int := (List.range n).map fun (i : Nat) => lo + (i : Int)
theorem rInts_len {lo : Int} {n : Nat} : (rInts lo n).length = n := by unfold rInts; rw [List.length_map, List.length_range]
theorem rInts_get {lo : Int} {n i : Nat} (h : i < (rInts lo n).length) : (rInts lo n)[i] = lo + (i : Int) := by
  simp [rInts]
theorem rInts_mem {lo x : Int} {n : Nat} : x ∈ rInts lo n ↔ lo ≤ x ∧ x < lo + n := by
  unfold rInts
  rw [List.mem_map]
  constructor
  · rintro ⟨i, hi, rfl⟩
    have := List.mem_range.mp hi
    omega
  · intro h
    exact ⟨(x - lo).toNat, List.mem_range.mpr (by omega), by omega⟩
theorem wi_rng1 {ta : TA} (h : WA K ta σ D O fun vs D1 O1 => ∃ j : Int, vs = [.int j] ∧ (-(2 ^ 62) ≤ j ∧ j < 2 ^ 62) ∧ P (rInts 0 j.toNat) (fun _ => True) D1 O1) : WI K (iRng1 ta) σ D O P := fun H hs R r =>
  h H hs _ fun vs D1 O1 H1 ⟨j, e, hj, k⟩ s1 => ⟨j, e, hj.1, hj.2, r _ _ _ D1 O1 H1 k s1 fun D O H _ _ => ⟨fun i hi => ⟨by rw [rInts_len] at hi; exact hi, fun x H2 hy => by
    obtain ⟨rfl, rfl⟩ := hy
    exact ⟨by rw [rInts_get hi], rfl⟩⟩, by rw [rInts_len]; exact Nat.le_refl _⟩⟩
theorem wi_rng2 {ta : TA} (h : WA K ta σ D O fun vs D1 O1 => ∃ lo hi : Int, vs = [.int lo, .int hi] ∧ (-(2 ^ 62) ≤ lo ∧ lo < 2 ^ 62 ∧ -(2 ^ 62) ≤ hi ∧ hi < 2 ^ 62) ∧ P (rInts lo (hi - lo).toNat) (fun _ => True) D1 O1) : WI K (iRng2 ta) σ D O P := fun H hs R r =>
  h H hs _ fun vs D1 O1 H1 ⟨lo, hi, e, hj, k⟩ s1 => ⟨lo, hi, e, hj, r _ _ _ D1 O1 H1 k s1 fun D O H _ _ => ⟨fun i hi => ⟨by rw [rInts_len] at hi; exact hi, fun x H2 hy => by
    obtain ⟨rfl, rfl⟩ := hy
    exact ⟨by rw [rInts_get hi], rfl⟩⟩, by rw [rInts_len]; exact Nat.le_refl _⟩⟩
theorem ints_get {xs : List Int} {i : Nat} (h : i < xs.length) : (xs.map V.int)[i]? = some (.int xs[i]) := by
  rw [List.getElem?_map, List.getElem?_eq_getElem h]
  rfl
theorem has_ints {a : Addr} {ns : List Int} {H : Hp} (h : Has K D (.ref a) (dI ns)) (hs : Hs K D O H) : SqL K H a (ns.map V.int) := by
  obtain ⟨b, e, h1⟩ := RdL.ints (rdl_dat h) hs
  cases e
  exact h1
theorem has_tints {a : Addr} {ns : List Int} {H : Hp} (h : Has K D (.ref a) (.tuple (ns.map .int))) (hs : Hs K D O H) : SqT K H a (ns.map V.int) := by
  obtain ⟨b, e, h1⟩ := RdT.ints (rdt_dat h) hs
  cases e
  exact h1
theorem src_list {a : Addr} {ns : List Int} : Src K (Itl K a) ns (fun D => Has K D (.ref a) (dI ns)) := fun D O H hS hs => by
  have h1 := has_ints hS hs
  refine ⟨fun i hi => ⟨⟨_, _, h1, ints_get hi⟩, fun x H2 hy => ?_⟩, _, h1, by rw [List.length_map]; exact Nat.le_refl _⟩
  obtain ⟨rfl, hy⟩ := hy
  have := hy _ h1
  rw [ints_get hi] at this
  cases this
  exact ⟨rfl, rfl⟩
theorem src_tup {a : Addr} {ns : List Int} : Src K (Itt K a) ns (fun D => Has K D (.ref a) (.tuple (ns.map .int))) := fun D O H hS hs => by
  have h1 := has_tints hS hs
  refine ⟨fun i hi => ⟨⟨_, _, h1, ints_get hi⟩, fun x H2 hy => ?_⟩, _, h1, by rw [List.length_map]; exact Nat.le_refl _⟩
  obtain ⟨rfl, hy⟩ := hy
  have := hy _ h1
  rw [ints_get hi] at this
  cases this
  exact ⟨rfl, rfl⟩
theorem src_rev {a : Addr} {ns : List Int} : Src K (Itv K a (ns.map V.int).length) ns.reverse (fun D => Has K D (.ref a) (dI ns)) := fun D O H hS hs => by
  have h1 := has_ints hS hs
  have key : ∀ i (h : i < ns.reverse.length), (ns.map V.int)[(ns.map V.int).length - 1 - i]? = some (.int ns.reverse[i]) := fun i h => by
    rw [List.length_reverse] at h
    rw [List.length_map, ints_get (by omega), List.getElem_reverse]
  refine ⟨fun i hi => ⟨⟨by rw [List.length_reverse] at hi; rw [List.length_map]; exact hi, _, _, h1, key i hi⟩, fun x H2 hy => ?_⟩, ?_⟩
  · obtain ⟨rfl, hy⟩ := hy
    have := hy _ h1
    rw [key i hi] at this
    cases this
    exact ⟨rfl, rfl⟩
  · show (ns.map V.int).length ≤ ns.reverse.length
    rw [List.length_map, List.length_reverse]
    exact Nat.le_refl _
theorem wi_list {tl : TE} {t2 : TI} (h : WE K tl σ D O fun v D1 O1 => ∃ (a : Addr) (ns : List Int), v = .ref a ∧ Has K D1 (.ref a) (dI ns) ∧ P ns (fun D => Has K D (.ref a) (dI ns)) D1 O1) : WI K (iOr (iList K tl) t2) σ D O P := fun H hs R r =>
  .inl (h H hs _ fun v D1 O1 H1 ⟨a, ns, e, hh, k⟩ s1 => ⟨a, e, ⟨_, has_ints hh s1⟩, r _ _ _ D1 O1 H1 k s1 src_list⟩)
theorem wi_tup {tl : TE} {t2 : TI} (h : WE K tl σ D O fun v D1 O1 => ∃ (a : Addr) (ns : List Int), v = .ref a ∧ Has K D1 (.ref a) (.tuple (ns.map .int)) ∧ P ns (fun D => Has K D (.ref a) (.tuple (ns.map .int))) D1 O1) : WI K (iOr t2 (iTup K tl)) σ D O P := fun H hs R r =>
  .inr (h H hs _ fun v D1 O1 H1 ⟨a, ns, e, hh, k⟩ s1 => ⟨a, e, ⟨_, has_tints hh s1⟩, r _ _ _ D1 O1 H1 k s1 src_tup⟩)
theorem wi_rev {ta : TA} (h : WA K ta σ D O fun vs D1 O1 => ∃ (a : Addr) (ns : List Int), vs = [.ref a] ∧ Has K D1 (.ref a) (dI ns) ∧ P ns.reverse (fun D => Has K D (.ref a) (dI ns)) D1 O1) : WI K (iRev K ta) σ D O P := fun H hs R r =>
  h H hs _ fun vs D1 O1 H1 ⟨a, ns, e, hh, k⟩ s1 => ⟨a, _, e, has_ints hh s1, r _ _ _ D1 O1 H1 k s1 src_rev⟩
/-- for x in ints -/
theorem ws_forW {wi : TI} {tb : TS} (h : WI K wi σ D O fun xs S D1 O1 => ∃ I : Nat → L2.St → DL → OL → Prop, Nx K (I 0) σ D1 O1 ∧ (∀ i σ' D' O', I i σ' D' O' → S D') ∧
      (∀ i (hi : i < xs.length) σ' D' O', I i σ' D' O' → WG K g (.int xs[i]) σ' D' O' fun σ3 D3 O3 => WS K tb σ3 D3 O3 { nx := Nx K (I (i + 1)), rt := Q.rt, bk := Q.nx, ct := Nx K (I (i + 1)) }) ∧ ∀ σ' D' O', I xs.length σ' D' O' → Q.nx σ' D' O') :
    WS K (tFor wi g tb) σ D O Q := ws_loop fun H hs R hR => h H hs R fun J xs S D1' O1' H1 ⟨I, ⟨D1, O1, h0, im0⟩, hS, turn, done⟩ s1' src => by
  have s1 := im0 H1 s1'
  refine hR _ _ ⟨xs.length, I, D1, O1, h0, s1, fun i σ' D' O' H' hi hI hs' => ?_, fun σ' D' O' H' hI hs' => (src D' O' H' (hS _ _ _ _ hI) hs').2, done⟩
  obtain ⟨go, yl⟩ := (src D' O' H' (hS _ _ _ _ hI) hs').1 i hi
  refine ⟨go, fun x H2 hy => ?_⟩
  obtain ⟨rfl, rfl⟩ := yl x H2 hy
  exact ⟨D', O', hs', turn i hi σ' D' O' hI⟩
theorem filter_snoc {α β : Type} {t : α → Bool} {f : α → β} {xs : List α} {i : Nat} (h : i < xs.length) : ((xs.take (i + 1)).filter t).map f = ((xs.take i).filter t).map f ++ if t xs[i] = true then [f xs[i]] else [] := by
  rw [List.take_succ_eq_append_getElem h, List.filter_append, List.map_append]
  cases e : t xs[i] <;> simp [e]
/-- [f x for x in ints if t x], nothing else changed -/
theorem we_lcI {wi : TI} {tt : TT} {te : TE} {vs : List Nat} {Pv : V → DL → OL → Prop} (t : Int → Bool) (f : Int → PyData) (ds : List PyData)
    (h : WI K wi σ D O fun xs S D1 O1 => S D1 ∧ xs.length ≤ 1000000 ∧ (∀ x ∈ xs, ∀ p acc, WG K g (.int x) (wipe σ vs) D1 (lstE K p acc :: O1) fun σ3 D3 O3 => wipe σ3 vs = wipe σ vs ∧ WT K tt σ3 D3 O3 fun b D4 O4 => b = t x ∧
        if b = true then WE K te σ3 D4 O4 fun y D5 O5 => (∀ D', Has K D' y (f x)) ∧ Imp K D5 O5 D1 (lstE K p acc :: O1) else Imp K D4 O4 D1 (lstE K p acc :: O1)) ∧
      (xs.filter t).map f = ds ∧ ∀ p, Pv (.ref p) ((.ref p, .list ds) :: D1) O1) : WE K (tLc wi g tt te vs) σ D O Pv := fun H0 hs0 Q0 q0 => by
  refine we_lcW (Pv := fun v D2 O2 => ∃ p D1 O1, v = .ref p ∧ D2 = D1 ∧ O2 = lstE K p ds :: O1 ∧ Pv (.ref p) ((.ref p, .list ds) :: D1) O1) (fun H hs R hR => h H hs R fun J xs S D1 O1 H1 ⟨hS, hl, turn, e2, done⟩ s1 src => ?_) H0 hs0 Q0 fun v D1 O1 H1 ⟨p, D0, O0, e1, e2, e3, k⟩ s1 => by
    subst e1 e2 e3
    exact q0 _ _ _ _ k s1.freeze
  refine hR _ _ ⟨xs.length, fun i acc D' O' => acc = ((xs.take i).filter t).map f ∧ D' = D1 ∧ O' = O1, D1, O1, ⟨by simp, rfl, rfl⟩, s1, ?_, ?_, ?_⟩
  · rintro i p acc D' O' H' hi ⟨ea, rfl, rfl⟩ hs'
    obtain ⟨go, yl⟩ := (src D' _ H' hS hs').1 i hi
    refine ⟨go, fun x H2 hy => ?_⟩
    obtain ⟨rfl, rfl⟩ := yl x H2 hy
    refine ⟨D', lstE K p acc :: O', hs', fun H3 hs3 R3 r3 => turn xs[i] (List.getElem_mem hi) p acc H3 hs3 R3 fun σ3 D3 O3 H4 ⟨ew, wt⟩ s4 => r3 σ3 D3 O3 H4 ⟨ew, fun H5 hs5 R5 r5 => wt H5 hs5 R5 fun b D4 O4 H6 ⟨eb, k⟩ s6 => r5 b D4 O4 H6 ?_ s6⟩ s4⟩
    subst eb
    have sn := filter_snoc (t := t) (f := f) hi
    have la : acc.length < 1000000 := by
      rw [ea, List.length_map]
      have h1 := List.length_filter_le t (xs.take i)
      rw [List.length_take] at h1
      omega
    cases ht : t xs[i] with
    | true =>
      rw [ht] at k sn
      simp only [if_true] at k sn ⊢
      exact fun H7 hs7 R7 r7 => k H7 hs7 R7 fun y D5 O5 H8 ⟨hy, im⟩ s8 => r7 y D5 O5 H8 ⟨f xs[i], D', O', im, hy D', la, by rw [sn, ea], rfl, rfl⟩ s8
    | false =>
      rw [ht] at k sn
      simp only [Bool.false_eq_true, if_false] at k sn ⊢
      exact ⟨D', O', k, by rw [sn, ea, List.append_nil], rfl, rfl⟩
  · rintro p acc D' O' H' ⟨ea, rfl, rfl⟩ hs'
    exact (src D' _ H' hS hs').2
  · rintro p acc D' O' ⟨ea, rfl, rfl⟩
    rw [List.take_length] at ea
    exact ⟨p, D', O', rfl, rfl, by rw [ea, e2], done p⟩
/-- [f x for x in ints] -/
theorem we_lcY {wi : TI} {te : TE} {vs : List Nat} {Pv : V → DL → OL → Prop} (f : Int → PyData) (ds : List PyData)
    (h : WI K wi σ D O fun xs S D1 O1 => S D1 ∧ xs.length ≤ 1000000 ∧ (∀ x ∈ xs, ∀ p acc, WG K g (.int x) (wipe σ vs) D1 (lstE K p acc :: O1) fun σ3 D3 O3 => wipe σ3 vs = wipe σ vs ∧ WE K te σ3 D3 O3 fun y D5 O5 => (∀ D', Has K D' y (f x)) ∧ Imp K D5 O5 D1 (lstE K p acc :: O1)) ∧
      xs.map f = ds ∧ ∀ p, Pv (.ref p) ((.ref p, .list ds) :: D1) O1) : WE K (tLc wi g tYes te vs) σ D O Pv :=
  we_lcI (fun _ => true) f ds fun H hs R r => h H hs R fun J xs S D1 O1 H1 ⟨hS, hl, turn, e2, done⟩ s1 src => r J xs S D1 O1 H1 ⟨hS, hl, fun x hx p acc => fun H3 hs3 R3 r3 => turn x hx p acc H3 hs3 R3 fun σ3 D3 O3 H4 ⟨ew, we⟩ s4 => r3 σ3 D3 O3 H4 ⟨ew, fun H5 hs5 R5 r5 => r5 true D3 O3 H5 ⟨rfl, we⟩ hs5⟩ s4, by rw [List.filter_eq_self.mpr fun _ _ => rfl]; exact e2, done⟩ s1 src
theorem in_ints {x : Int} : ∀ {ns : List Int}, L2.inV (.int x) (ns.map V.int) = decide (x ∈ ns)
  | [] => by simp [L2.inV]
  | n :: ns => by
    have ih := in_ints (x := x) (ns := ns)
    unfold L2.inV at ih ⊢
    rw [List.map_cons, List.any_cons, ih]
    by_cases h : n = x
    · subst h; simp [L2.eqV]
    · have : ¬ x = n := fun e => h e.symm
      simp [L2.eqV, h, this]
/-- x in ints -/
theorem wr_inT {x : Int} {ns : List Int} {neg : Bool} {v : V} {P : V → DL → OL → Prop} (h : Has K D v (.tuple (ns.map .int))) (k : P (.bl (if neg then !decide (x ∈ ns) else decide (x ∈ ns))) D O) : WR K (L2.rIn K neg) (.int x) v D O P := fun H hs Q q => by
  obtain ⟨a, rfl, h1⟩ := (rdt_dat h).ints hs
  refine ⟨a, _, rfl, .inr h1, rfl, ?_, ?_⟩
  · rw [List.all_eq_true]
    intro y hy
    obtain ⟨z, _, rfl⟩ := List.mem_map.mp hy
    rfl
  · rw [in_ints]
    exact q _ D O H k hs
theorem wr_inL {x : Int} {ns : List Int} {neg : Bool} {v : V} {P : V → DL → OL → Prop} (h : RdL K D O v (ns.map .int)) (k : P (.bl (if neg then !decide (x ∈ ns) else decide (x ∈ ns))) D O) : WR K (L2.rIn K neg) (.int x) v D O P := fun H hs Q q => by
  obtain ⟨a, rfl, h1⟩ := h.ints hs
  refine ⟨a, _, rfl, .inl h1, rfl, ?_, ?_⟩
  · rw [List.all_eq_true]
    intro y hy
    obtain ⟨z, _, rfl⟩ := List.mem_map.mp hy
    rfl
  · rw [in_ints]
    exact q _ D O H k hs
end

/-! ### a tuple of ints at the module's top -/
def tupB (K : Fg) (a : Addr) (ns : List Int) : Bool := match K.lookup a with
  | some ⟨.type "tuple", _, .seq its _, _⟩ => Nat.ble its.size 1000 && (decide (its.toList.length = ns.length) && (its.toList.zip ns).all fun u => He.relB (.int u.2) u.1)
  | _ => false
theorem rel_zip : ∀ {us : List Value} {ns : List Int}, us.length = ns.length → ((us.zip ns).all fun u => He.relB (.int u.2) u.1) = true → L2.Vals (ns.map V.int) us
  | [], [], _, _ => .nil
  | [], _ :: _, h, _ => by simp at h
  | _ :: _, [], h, _ => by simp at h
  | u :: us, n :: ns, h, h2 => by
    rw [List.zip_cons_cons, List.all_cons, Bool.and_eq_true] at h2
    exact .cons (He.relB_ok h2.1) (rel_zip (by simpa using h) h2.2)
theorem tup_has {K : Fg} {a : Addr} {ns : List Int} (h : tupB K a ns = true) {D : DL} : Has K D (.ref a) (.tuple (ns.map .int)) := fun Hi _ => by
  unfold tupB at h
  split at h
  · rename_i od its n osl e
    rw [Bool.and_eq_true, Bool.and_eq_true] at h
    refine .tup (.inr ⟨_, its, n, e, rfl, rfl, Nat.le_trans (Nat.le_of_ble_eq_true h.1) (by decide), rel_zip (of_decide_eq_true h.2.1) h.2.2⟩) (dps_of_ints ns)
  · cases h
abbrev TupsT := List ((Fg → Addr) × List Int)
def hookT (n : Nat) (fa : List He.Fa) (fn : List He.DefD) (tp : TupsT) : PySem.W.Hook where
  α := He.AlD × Bool
  obs := fun s => (He.obsDG n fa fn s.heap.get?, tp.all fun t => tupB (He.frG s.heap.get? (He.asD s.heap.get? n)) (t.1 (He.frG s.heap.get? (He.asD s.heap.get? n))) t.2)
  val := fun _ => (He.valD fn, true)
  says := fun _ h => ∃ K : Fg, K.In h ∧ He.SaysD fa fn K ∧ ∀ t ∈ tp, tupB K (t.1 K) t.2 = true
  of := fun _ _ e => ⟨_, He.frG_in, (Prod.mk.inj e).1, fun t ht => List.all_eq_true.mp (Prod.mk.inj e).2 t ht⟩
  keeps := fun _ _ _ ⟨K, hK, c⟩ k => ⟨K, PySem.W.Frag.In.keeps hK k, c⟩
def obT (n : Nat) (fa : List He.Fa) (fn : List He.DefD) (tp : TupsT) (g : Addr → Option Obj) : He.AlD × Bool := (He.obsDG n fa fn g, tp.all fun t => tupB (He.frG g (He.asD g n)) (t.1 (He.frG g (He.asD g n))) t.2)
theorem obT_eq {n : Nat} {fa : List He.Fa} {fn : List He.DefD} {tp : TupsT} {g : Addr → Option Obj} {s : Shared} (h : ∀ a, g a = s.heap.get? a) : obT n fa fn tp g = (hookT n fa fn tp).obs s := by
  have e : g = s.heap.get? := funext h
  subst e
  rfl
theorem if_nt {A B : Prop} (h : B) : if (!true) = true then A else B := h
theorem if_nf {A B : Prop} (h : A) : if (!false) = true then A else B := h
theorem gvs_mi {D : DL} {n : Int} {ns : List Int} {k : List V → DL → Prop} (h : Gvs (ns.map .int) D fun vs D1 => k (.int n :: vs) D1) : Gvs ((n :: ns).map .int) D k := h
theorem gvs_mn {D : DL} {k : List V → DL → Prop} (h : k [] D) : Gvs (([] : List Int).map .int) D k := h
theorem nd {p : Prop} [Decidable p] (h : p) : (!decide p) = false := by simp [h]
section
variable {K : Fg} {D : DL} {O : OL} {σ : L2.St} {P : List Int → (DL → Prop) → DL → OL → Prop}
theorem wi_listF {tl : TE} {t2 : TI} (h : WE K tl σ D O fun v D1 O1 => ∃ (a : Addr) (ns : List Int) (D2 : DL) (O2 : OL), v = .ref a ∧ Imp K D1 O1 D2 O2 ∧ Has K D2 (.ref a) (dI ns) ∧ P ns (fun D => Has K D (.ref a) (dI ns)) D2 O2) : WI K (iOr (iList K tl) t2) σ D O P := fun H hs R r =>
  .inl (h H hs _ fun v D1 O1 H1 ⟨a, ns, D2, O2, e, im, hh, k⟩ s1 => ⟨a, e, ⟨_, has_ints hh (im H1 s1)⟩, r _ _ _ D2 O2 H1 k (im H1 s1) src_list⟩)
theorem wr_notB {a b : Bool} {P : V → DL → OL → Prop} (k : P (.bl (!decide (a = b))) D O) : WR K L2.rNotB (.bl a) (.bl b) D O P := fun H hs Q q => ⟨a, b, rfl, rfl, q _ D O H k hs⟩
theorem wr_isB {a b : Bool} {P : V → DL → OL → Prop} (k : P (.bl (decide (a = b))) D O) : WR K L2.rIsB (.bl a) (.bl b) D O P := fun H hs Q q => ⟨a, b, rfl, rfl, q _ D O H k hs⟩
end
/-- if not so (the ledger changed by the test): return False -/
theorem ws_skipG {K : Fg} {D D' : DL} {O O' : OL} {σ : L2.St} {P : Po} {tt : TT} {t : TS} (h : WT K tt σ D O fun b D1 O1 => b = false ∧ Imp K D1 O1 D' O') (k : P.nx σ D' O') : WS K (tIfS tt t tNext) σ D O P :=
  ws_if fun H hs Q q => h H hs Q fun b D1 O1 H1 ⟨e, im⟩ s1 => q b D1 O1 H1 (by
    subst e
    exact ws_imp im (ws_next k)) s1
end Wp

namespace Wp
open PySem L2

/-! ### instances -/
def insC (C : Addr) (fs : List (Str × V)) : Ct := ⟨fun o _ => ∃ dx, o = .ins C dx fs, fun h _ => h⟩
/-- an instance whose attributes' values are known -/
abbrev insE (p C : Addr) (fs : List (Str × V)) : Ent := oneE p (insC C fs)
def Ins (K : Fg) (D : DL) (O : OL) (a C : Addr) (m : Str) : Prop := ∀ H, Hs K D O H → ∃ dx fs, H a = some (.ins C dx fs) ∧ fs.lookup m = none
section
variable {K : Fg} {D : DL} {O : OL} {σ : L2.St} {P : V → DL → OL → Prop} {Q : Po} {ta tv : TE} {t : TA} {f m : Str} {C a : Addr} {fs : List (Str × V)} {n : Nat}
theorem ins_at (h : O[n]? = some (insE a C fs)) (hm : fs.lookup m = none) : Ins K D O a C m := fun H hs => by
  obtain ⟨o, Hi, h1, ⟨dx, e⟩, _⟩ := hs.at h
  subst e
  exact ⟨dx, fs, h1, hm⟩
theorem we_fld (c : Cls K C) (na : NoAttr K C f) (h : WE K ta σ D O fun x D1 O1 => ∃ (a : Addr) (fs : List (Str × V)) (n : Nat) (v : V), x = .ref a ∧ O1[n]? = some (insE a C fs) ∧ fs.lookup f = some v ∧ P v D1 O1) : WE K (tFld K ta f) σ D O P := fun H hs Q q =>
  h H hs _ fun x D1 O1 H1 ⟨a, fs, n, v, e, hn, hl, k⟩ s1 => by
    obtain ⟨o, Hi, h1, ⟨dx, eo⟩, _⟩ := s1.at hn
    subst e eo
    exact ⟨a, C, dx, fs, v, rfl, h1, c, na, hl, q _ _ _ _ k s1⟩
theorem ws_fld (c : Cls K C) (na : NoAttr K C f) (h : WE K tv σ D O fun y D1 O1 => WE K ta σ D1 O1 fun x D2 O2 => ∃ (a : Addr) (fs : List (Str × V)) (n : Nat), x = .ref a ∧ O2[n]? = some (insE a C fs) ∧ fs.length < 1000 ∧ Q.nx σ D2 (O2.set n (insE a C (putF f y fs)))) : WS K (sFld K ta tv f) σ D O Q := fun H hs E x1 _ _ _ =>
  h H hs _ fun y D1 O1 H1 k1 s1 => k1 H1 s1 _ fun x D2 O2 H2 ⟨a, fs, n, e, hn, hl, k⟩ s2 => by
    obtain ⟨o, Hi, h1, ⟨dx, eo⟩, _, _, wr⟩ := s2.at hn
    subst e eo
    exact ⟨a, C, dx, fs, rfl, h1, c, na, hl, x1 _ _ _ _ k (wr _ (insC C (putF f y fs)) ⟨dx, rfl⟩)⟩
theorem ws_fldaug {rd : R2} (c : Cls K C) (na : NoAttr K C f) (h : WE K ta σ D O fun x D1 O1 => ∃ (a : Addr) (fs : List (Str × V)) (n : Nat) (v : V), x = .ref a ∧ O1[n]? = some (insE a C fs) ∧ fs.lookup f = some v ∧
    WE K tv σ D1 O1 fun y D2 O2 => WR K rd v y D2 O2 fun z D3 O3 => ∃ (fs' : List (Str × V)) (n' : Nat), O3[n']? = some (insE a C fs') ∧ fs'.length < 1000 ∧ Q.nx σ D3 (O3.set n' (insE a C (putF f z fs')))) : WS K (sFldAug K ta tv rd f) σ D O Q := fun H hs E x1 _ _ _ =>
  h H hs _ fun x D1 O1 H1 ⟨a, fs, n, v, e, hn, hl, k⟩ s1 => by
    obtain ⟨o, Hi, h1, ⟨dx, eo⟩, _⟩ := s1.at hn
    subst e eo
    refine ⟨a, C, dx, fs, v, rfl, h1, c, na, hl, k H1 s1 _ fun y D2 O2 H2 k2 s2 => k2 H2 s2 _ fun z D3 O3 H3 ⟨fs', n', hn', hl', k3⟩ s3 => ?_⟩
    obtain ⟨o', Hi', h1', ⟨dx', eo'⟩, _, _, wr⟩ := s3.at hn'
    subst eo'
    exact ⟨dx', fs', h1', hl', x1 _ _ _ _ k3 (wr _ (insC C (putF f z fs')) ⟨dx', rfl⟩)⟩
/-- o.m(..) -/
theorem we_meth {R : AW} {N : Nat} {E : XK} {dvs : List V} (h : WE K ta σ D O fun x D1 O1 => ∃ a, x = .ref a ∧ Ins K D1 O1 a C m ∧ WA K t σ D1 O1 fun vs D2 O2 => ∃ D3 O3, Imp K D2 O2 D3 O3 ∧ (V.ref a :: (vs ++ dvs)).length = N ∧ R (.ref a :: (vs ++ dvs)) D3 O3 P) : WE K (tMeth C m (spW K N R) dvs E ta t) σ D O P := fun H hs Q q =>
  h H hs _ fun x D1 O1 H1 ⟨a, e, hi, k⟩ s1 => by
    obtain ⟨dx, fs, h1, hm⟩ := hi H1 s1
    subst e
    exact ⟨a, dx, fs, rfl, h1, hm, k H1 s1 _ fun vs D2 O2 H2 ⟨D3, O3, im, el, r⟩ s2 => ⟨el, D3, O3, P, r, im _ s2, q⟩⟩
theorem ex_upd {H : Hp} {p : Addr} {o : HO} (h : H p = none) : Ex H (upd H p o) := fun b o' e => by
  by_cases z : b = p
  · subst z; rw [h] at e; cases e
  · rw [upd_ne z]; exact e
/-- C(..) -/
theorem we_make {R : AW} {N : Nat} {E : XK} {dvs : List V} (h : WA K t σ D O fun vs D1 O1 => ∀ x, ∃ D2 O2, Imp K D1 (insE x C [] :: O1) D2 O2 ∧ (V.ref x :: (vs ++ dvs)).length = N ∧ R (.ref x :: (vs ++ dvs)) D2 O2 fun v D3 O3 => v = .non ∧ P (.ref x) D3 O3) : WE K (tMake C (spW K N R) dvs E t) σ D O P := fun H hs Q q =>
  h H hs _ fun vs D1 O1 H1 k s1 => fun x dx hx hdx hne => by
    obtain ⟨D2, O2, im, el, r⟩ := k x
    have s2 : Hs K D1 O1 (upd H1 dx (.own x)) := s1.grow (ex_upd hdx)
    have hx2 : upd H1 dx (.own x) x = none := by rw [upd_ne (Ne.symm hne)]; exact hx
    have s3 : Hs K D1 (insE x C [] :: O1) (upd (upd H1 dx (.own x)) x (.ins C dx [])) := s2.newO (c := insC C []) hx2 fun _ _ => ⟨dx, rfl⟩
    exact ⟨el, D2, O2, _, r, im _ s3, fun v D' O' H' ⟨e, kk⟩ s' => ⟨e, q _ _ _ _ kk s'⟩⟩
/-- f(..) with defaults -/
theorem we_callD {R : AW} {N : Nat} {E : XK} {dvs : List V} (h : WA K t σ D O fun vs D1 O1 => ∃ D2 O2, Imp K D1 O1 D2 O2 ∧ (vs ++ dvs).length = N ∧ R (vs ++ dvs) D2 O2 P) : WE K (tCall (spW K N R) dvs E t) σ D O P := fun H hs Q q =>
  h H hs _ fun vs D1 O1 H1 ⟨D2, O2, im, e, k⟩ s1 => ⟨e, D2, O2, P, k, im _ s1, q⟩
end
def OkM (P : Program) (w : World) (K : Fg) (mg : Str → Option Value) (base : Heap) (k : Nat) (f : Addr) (ps : List Str) (R : AW) (dvs : List V) (js : List Nat) : Prop :=
  ∃ fd, FnOk P w K mg base CX0 k f fd ps (spW K ps.length R) ∧ ∀ j ∈ js, ∃ ds, L2.Vals (dvs.drop j) ds ∧ Binds K fd ps ds
def OkD (P : Program) (w : World) (K : Fg) (mg : Str → Option Value) (base : Heap) (k : Nat) (f : Addr) (x : Str) (ps : List Str) (R : AW) (dvs : List V) (js : List Nat) : Prop :=
  ∃ fd, FnOk P w K mg base CX0 k f fd ps (spW K ps.length R) ∧ (∀ j ∈ js, ∃ ds, L2.Vals (dvs.drop j) ds ∧ Binds K fd ps ds) ∧ PySem.W.keepIn K (.ref f) = true ∧ mg x = some (.ref f)
/-! repr of scalars -/
theorem call_repr_bool {X : Cx} : CallR X (.builtin "repr") (fun xs H Q => ∃ b, xs = [V.bl b] ∧ Q (.str (if b then "True" else "False")) H) := by
  intro pins s σ H xs us Q I r h
  obtain ⟨b, rfl, q⟩ := h
  obtain ⟨u, rfl, e⟩ := vals1 r
  cases (show u = Value.bool b from e)
  exact PySem.P.repr_of_bool ⟨.str _, H, I.tok _, ⟨_, rfl⟩, q⟩
abbrev rREPR : List V → Hp → VK → Prop := rcOr (fun xs H Q => ∃ i, xs = [V.int i] ∧ i.natAbs.log2 < 1920 ∧ Q (.str (toString i)) H) fun xs H Q => ∃ b, xs = [V.bl b] ∧ Q (.str (if b then "True" else "False")) H
theorem cREPR {X : Cx} : CallR X (.builtin "repr") rREPR := cr_or2 SkE.call_repr_int call_repr_bool
section
variable {K : Fg} {D : DL} {O : OL} {P : V → DL → OL → Prop}
theorem wc_reprB {b : Bool} (k : P (.str (if b then "True" else "False")) D O) : WC K rREPR [.bl b] D O P := wc_r fun H hs Q q => ⟨b, rfl, q _ D O H k hs⟩
theorem wc_reprI {i : Int} (c : i.natAbs.log2 < 1920) (k : P (.str (toString i)) D O) : WC K rREPR [.int i] D O P := wc_l fun H hs Q q => ⟨i, rfl, c, q _ D O H k hs⟩
end
end Wp

namespace Wp
open PySem L2

/-! ### flat lists, whatever else is owned -/
section
variable {K : Fg} {D : DL} {O : OL} {e : Ent} {v w : V} {H : Hp} {P : V → DL → OL → Prop} {i : Int}
theorem Hx.tail {fp : List Addr} {l : List (List Addr)} (h : Hx K (fp :: l) D (e :: O) H) : Hx K l D O H := by
  obtain ⟨nd, pr, fa⟩ := h
  cases pr with
  | cons r t =>
    have g : Ex (cut H (fp :: l).flatten) (cut H l.flatten) := cut_less fun a ha => by rw [List.flatten_cons]; exact List.mem_append_right _ ha
    rw [List.flatten_cons] at nd
    exact ⟨(List.nodup_append.mp nd).2.1, pair_mono t (fun _ _ => rfl) g, fa.mono g⟩
theorem dps_of_bools {K : Fg} {H : Hp} : ∀ (bs : List Bool), DpAll K H (bs.map V.bl) (bs.map PyData.bool)
  | [] => .nil
  | b :: bs => .cons (.bl b) (dps_of_bools bs)
theorem rdl_consB {bs : List Bool} (h : RdL K D O v (bs.map .bool)) : RdL K D (e :: O) v (bs.map .bool) := fun fps H hx => by
  cases fps with
  | nil => obtain ⟨_, pr, _⟩ := hx; cases pr
  | cons fp l =>
    obtain ⟨a, vs, e1, h1, h2⟩ := h l H hx.tail
    refine ⟨a, vs, e1, h1, ?_⟩
    rw [dps_bools h2]
    exact dps_of_bools bs
theorem rdl_consI {ns : List Int} (h : RdL K D O v (ns.map .int)) : RdL K D (e :: O) v (ns.map .int) := fun fps H hx => by
  cases fps with
  | nil => obtain ⟨_, pr, _⟩ := hx; cases pr
  | cons fp l =>
    obtain ⟨a, vs, e1, h1, h2⟩ := h l H hx.tail
    refine ⟨a, vs, e1, h1, ?_⟩
    rw [dps_ints h2]
    exact dps_of_ints ns
theorem canLay_bools : ∀ bs : List Bool, PyData.canLayAll0 (bs.map PyData.bool) = true
  | [] => by simp [PyData.canLayAll0]
  | b :: bs => by simp [PyData.canLayAll0, PyData.canLay0, canLay_bools bs]
theorem depth_bools : ∀ bs : List Bool, PyData.depthAll (bs.map PyData.bool) ≤ 1
  | [] => by simp [PyData.depthAll]
  | b :: bs => by
    have := depth_bools bs
    simp only [List.map_cons, PyData.depthAll, PyData.depth]
    omega
theorem shaped_bools {bs : List Bool} : SeqAt.shaped (.list (bs.map PyData.bool)) = true := by
  have h1 := canLay_bools bs
  have h2 := depth_bools bs
  unfold SeqAt.shaped
  rw [show (PyData.list (bs.map PyData.bool)).canLay0 = true by simpa [PyData.canLay0] using h1, Bool.true_and]
  refine decide_eq_true ?_
  simp only [PyData.depth]
  omega
theorem eqvAll_bools : ∀ bs cs : List Bool, PyData.eqvAll (bs.map PyData.bool) (cs.map PyData.bool) = decide (bs = cs)
  | [], [] => by simp [PyData.eqvAll]
  | [], c :: cs => by simp [PyData.eqvAll]
  | b :: bs, [] => by simp [PyData.eqvAll]
  | b :: bs, c :: cs => by
    simp only [List.map_cons, PyData.eqvAll, PyData.eqv, eqvAll_bools bs cs]
    by_cases h : b = c <;> by_cases h2 : bs = cs <;> simp [h, h2]
theorem eqv_bools {bs cs : List Bool} : PyData.eqv (.list (bs.map PyData.bool)) (.list (cs.map PyData.bool)) = decide (bs = cs) := by
  simp only [PyData.eqv, eqvAll_bools]
theorem wr_neLB {bs cs : List Bool} (h : RdL K D O v (bs.map .bool)) (h' : RdL K D O w (cs.map .bool)) (k : P (.bl (!decide (bs = cs))) D O) : WR K (rNE K) v w D O P :=
  wr_neD (rdd_list h) (rdd_list h') shaped_bools shaped_bools (by rw [eqv_bools]; exact k)
/-- a bool of a list of bools -/
theorem wr_ixB {bs : List Bool} (h : RdL K D O v (bs.map .bool)) (h0 : 0 ≤ i) (h1 : i < bs.length) (k : P (.bl (bs.getD i.toNat false)) D O) : WR K (L2.rIx K) v (.int i) D O P := by
  have hn : i.toNat < bs.length := by omega
  refine wr_xL (wr_ixL (n := i.toNat) (d := .bool (bs.getD i.toNat false)) h (ixN_nat h0 rfl (by simpa using hn)) ?_ k)
  rw [List.getElem?_map, List.getElem?_eq_getElem hn, List.getD_eq_getElem?_getD, List.getElem?_eq_getElem hn]
  rfl
/-! ### things of any kind -/
def vInt : V → Bool
  | .int _ => true
  | .bl _ => true
  | _ => false
def vBool : V → Bool
  | .bl _ => true
  | _ => false
def Thg (K : Fg) (D : DL) (v : V) : Prop := (∃ i, v = .int i) ∨ (∃ b, v = .bl b) ∨ v = .non ∨ (∃ s, v = .str s) ∨ ∃ ds, Has K D v (.tuple ds)
theorem tyx_tup {a : Addr} {xs : List V} (h : SqT K H a xs) : TyX K H (.ref a) (.type "tuple") := by
  rcases h with (h | ⟨o, h⟩) | ⟨o, its, n, e, c, _⟩
  · exact .base (.tup h)
  · exact .fTuple h
  · exact .kTuple e c
theorem has_tup_ref {ds : List PyData} (h : Has K D v (.tuple ds)) (hs : Hs K D O H) : ∃ a xs, v = .ref a ∧ SqT K H a xs := by
  have := hs.dp h
  cases this with
  | tup h1 h2 => exact ⟨_, _, rfl, h1⟩
theorem wc_isiT {t : String} {b : Bool} {ds : List PyData} (h : Has K D v (.tuple ds)) (hb : kitB "tuple" t = some b) (k : P (.bl b) D O) : WC K (rIsi K) [v, .ty t] D O P := fun H hs Q q => by
  obtain ⟨a, xs, e, h1⟩ := has_tup_ref h hs
  subst e
  exact ⟨_, .ty t, .type "tuple", .type t, b, rfl, .ty t, tyx_tup h1, kit_ty hb, q _ D O H k hs⟩
theorem thg_int (h : Thg K D v) (k : P (.bl (vInt v)) D O) : WC K (rIsi K) [v, .ty "int"] D O P := by
  rcases h with ⟨i, rfl⟩ | ⟨b, rfl⟩ | rfl | ⟨s, rfl⟩ | ⟨ds, h⟩
  · exact wc_isi_ii k
  · exact wc_isi_bi k
  · exact wc_isi_ni k
  · exact wc_isi_si k
  · refine fun H hs Q q => ?_
    obtain ⟨a, xs, e, h1⟩ := has_tup_ref h hs
    subst e
    exact wc_isiT (b := false) h (by decide +kernel) k H hs Q q
theorem thg_bool (h : Thg K D v) (k : P (.bl (vBool v)) D O) : WC K (rIsi K) [v, .ty "bool"] D O P := by
  rcases h with ⟨i, rfl⟩ | ⟨b, rfl⟩ | rfl | ⟨s, rfl⟩ | ⟨ds, h⟩
  · exact wc_isi_ib k
  · exact wc_isi_bb k
  · exact wc_isi (b := false) (fun H => .base .non) (by decide +kernel) k
  · exact wc_isi (b := false) (fun H => .base (.str s)) (by decide +kernel) k
  · refine fun H hs Q q => ?_
    obtain ⟨a, xs, e, h1⟩ := has_tup_ref h hs
    subst e
    exact wc_isiT (b := false) h (by decide +kernel) k H hs Q q
end
theorem imp_subl {K : Fg} {D D' : DL} {O : OL} (h : D'.Sublist D) : Imp K D O D' O := imp_sub fun _ hy => h.subset hy
end Wp

local macro_rules | `(tactic| walk_at "mem") => `(tactic| first | exact List.mem_cons_self | ((with_reducible refine' List.mem_cons_of_mem _ ?zz); (case zz => (walk_at "mem"))))
local macro_rules | `(tactic| walk_at "has") => `(tactic| first | exact Wp.has_int | exact Wp.has_bl | exact Wp.has_non | exact Wp.has_str | with_reducible exact Wp.has_hd | with_reducible assumption | ((with_reducible refine' Wp.has_up ?zz); (case zz => (walk_at "has"))))
local macro_rules | `(tactic| walk_at "hi") => `(tactic| first | exact Wp.hi_nil | (refine' Wp.hi_cons ?zz; (case zz => (walk_at "hi"))))
local macro_rules | `(tactic| walk_at "hasl") => `(tactic| first | (walk_at "hi") | exact Wp.hasl_nil | exact Wp.hasl_ints | (refine' Wp.hasl_cons ?a1 ?a2; (case a1 => (walk_at "has")); (case a2 => (walk_at "hasl"))))
local macro_rules | `(tactic| walk_at "rdl") => `(tactic| first | assumption | exact Wp.rdl_own (n := 0) rfl | exact Wp.rdl_own (n := 1) rfl | exact Wp.rdl_own (n := 2) rfl | exact Wp.rdl_own (n := 3) rfl | exact Wp.rdl_own (n := 4) rfl | ((with_reducible refine' Wp.rdl_dat ?zz); (case zz => (walk_at "has"))) | ((with_reducible refine' Wp.rdl_up ?zz); (case zz => (walk_at "rdl"))))
local macro_rules | `(tactic| walk_at "rdt") => `(tactic| first | assumption | ((with_reducible refine' Wp.rdt_dat ?zz); (case zz => (walk_at "has"))) | ((with_reducible refine' Wp.rdt_up ?zz); (case zz => (walk_at "rdt"))))
local macro_rules | `(tactic| walk_at "pen") => `(tactic| first | with_reducible exact Wp.pm0 | with_reducible exact Wp.pm1 | with_reducible exact Wp.pm2 | with_reducible exact Wp.pm3 | with_reducible exact Wp.pm4)
local macro_rules | `(tactic| walk_at "sub") => `(tactic| first | with_reducible exact List.Sublist.refl _ | ((with_reducible refine' List.Sublist.cons₂ _ ?zz); (case zz => (walk_at "sub"))) | ((with_reducible refine' List.Sublist.cons _ ?zz); (case zz => (walk_at "sub"))))
local macro_rules | `(tactic| walk_at "imp") => `(tactic| first | with_reducible exact Wp.Imp.refl | ((with_reducible refine' Wp.imp_subl ?zz); (case zz => (walk_at "sub"))) | ((with_reducible refine' Wp.imp_dd ?zz); (case zz => (walk_at "imp"))) | exact Wp.Imp.refl | ((refine' (Wp.imp_dropi (i := 0) rfl).trans ?zz); (case zz => (walk_at "imp"))) | ((refine' (Wp.imp_dropi (i := 1) rfl).trans ?zz); (case zz => (walk_at "imp"))) | ((refine' (Wp.imp_dropi (i := 2) rfl).trans ?zz); (case zz => (walk_at "imp"))))
local macro_rules | `(tactic| walk_at "draw") => `(tactic| ((refine' ⟨_, _, Wp.Imp.refl, rfl, _, _, _, _, rfl, ?pm, ?h0, ?h1, ?h2, ?go⟩); (case pm => (walk_at "pen")); (case h0 => (walk_at "side")); (case h1 => (walk_at "side")); (case h2 => (walk_at "side"))))
local macro_rules | `(tactic| walk_at "len") => `(tactic| first | assumption | ((simp only [List.length_map, List.length_append, List.length_cons, List.length_nil, List.length_reverse]); omega))
local macro_rules | `(tactic| walk_at "side") => `(tactic| first | assumption | omega | decide | (unfold Wp.maxN; omega) | ((simp only [List.length_map, List.length_append, List.length_cons, List.length_nil, List.length_reverse, Wp.maxN]); omega) | (simp only [List.length_map, List.length_append, List.length_cons, List.length_nil, List.length_reverse, Wp.maxN]; decide))
local macro_rules | `(tactic| walk_at "mul") => `(tactic| first | exact Wp.cmulx_of (a := 64) (b := 64) (by decide) (by assumption) (by decide) (by decide) (by decide) | exact Wp.cmulx_of (a := 64) (b := 1000) (by decide) (by omega) (by decide) (by decide) (by decide))
local macro_rules | `(tactic| walk_at "ixs") => `(tactic| first | assumption | omega | decide | exact Int.ofNat_lt.mpr (Nat.le_of_ble_eq_true rfl))
local macro_rules | `(tactic| walk_at "w") => `(tactic| first
  | with_reducible refine Wp.ws_seq (Wp.ws_set ?_)
  | with_reducible refine Wp.ws_seq (Wp.ws_asg ?_)
  | with_reducible refine Wp.ws_seq (Wp.ws_drop ?_)
  | with_reducible refine Wp.ws_seq (Wp.ws_par ?_)
  | ((with_reducible refine' Wp.ws_seq (Wp.ws_aug ?h1 ?go)); (case h1 => exact rfl))
  | ((with_reducible refine Wp.ws_seq (Wp.pn_putL ?h1 ?go)); (case h1 => exact rfl))
  | ((with_reducible refine Wp.ws_seq (Wp.pn_putT ?h1 ?go)); (case h1 => exact rfl))
  | with_reducible refine Wp.ws_drop ?_
  | with_reducible refine Wp.ws_par ?_
  | ((with_reducible refine' Wp.ws_aug ?h1 ?go); (case h1 => exact rfl))
  | with_reducible refine Wp.ws_set ?_
  | with_reducible refine Wp.ws_ret ?_
  | ((with_reducible refine' Wp.we_var ?h1 ?go); (case h1 => exact rfl))
  | with_reducible refine Wp.we_c ?_
  | with_reducible refine Wp.we_op ?_
  | with_reducible refine Wp.we_un ?_
  | ((with_reducible refine Wp.pn_left ?h1 ?go); (case h1 => exact rfl))
  | ((with_reducible refine Wp.pn_turn ?h1 ?go); (case h1 => exact rfl))
  | ((with_reducible refine Wp.pn_cells ?h1 (fun v => ?go)); (case h1 => exact rfl))
  | ((with_reducible refine Wp.pn_putL ?h1 ?go); (case h1 => exact rfl))
  | ((with_reducible refine Wp.pn_putT ?h1 ?go); (case h1 => exact rfl))
  | with_reducible refine Wp.we_cb ?_
  | with_reducible refine Wp.we_if ?_
  | with_reducible refine Wp.wi_rev ?_
  | with_reducible refine Wp.wi_rng1 ?_
  | with_reducible refine Wp.wi_rng2 ?_
  | with_reducible refine Wp.we_call ?_
  | with_reducible refine Wp.we_sl ?_
  | with_reducible refine Wp.wo_none ?_
  | with_reducible refine Wp.wo_some ?_
  | ((with_reducible refine' Wp.wsl_toI ?h1 ?h2 (fun r => ?go)); (case h1 => (walk_at "rdl")); (case h2 => (walk_at "side")))
  | ((with_reducible refine' Wp.wsl_fromI ?h1 ?h2 (fun r => ?go)); (case h1 => (walk_at "rdl")); (case h2 => (walk_at "side")))
  | ((with_reducible refine' Wp.wsl_to ?h1 ?h2 (fun r => ?go)); (case h1 => (walk_at "rdl")); (case h2 => (walk_at "side")))
  | ((with_reducible refine' Wp.wsl_from ?h1 ?h2 (fun r => ?go)); (case h1 => (walk_at "rdl")); (case h2 => (walk_at "side")))
  | ((with_reducible refine' Wp.wsl_list ?h1 (fun r => ?go)); (case h1 => (walk_at "rdl")))
  | ((with_reducible refine' Wp.wc_listL ?h1 (fun r => ?go)); (case h1 => (walk_at "rdl")))
  | ((with_reducible refine' Wp.wc_listT ?h1 (fun r => ?go)); (case h1 => (walk_at "rdt")))
  | with_reducible refine Wp.wa_cons ?_
  | with_reducible refine Wp.wa_nil ?_
  | with_reducible refine Wp.wt_test (Wp.we_op ?_)
  | with_reducible refine Wp.wt_truB ?_
  | with_reducible refine Wp.wt_B ?_
  | with_reducible refine Wp.we_isN ?_
  | with_reducible refine Wp.we_notN ?_
  | with_reducible refine Wp.wt_not ?_
  | with_reducible refine Wp.wt_and ?_
  | with_reducible refine Wp.wt_or ?_
  | with_reducible refine Wp.wr_add ?_
  | ((with_reducible refine' Wp.wr_catI ?h1 ?h2 ?h3 (fun r => ?go)); (case h1 => (walk_at "rdl")); (case h2 => (walk_at "rdl")); (case h3 => (walk_at "len")))
  | ((with_reducible refine' Wp.wr_cat ?h1 ?h2 ?h3 (fun r => ?go)); (case h1 => (walk_at "rdl")); (case h2 => (walk_at "rdl")); (case h3 => (walk_at "len")))
  | with_reducible refine Wp.wr_sub ?_
  | ((with_reducible refine Wp.wr_mod ?h1 ?go); (case h1 => (walk_at "side")))
  | ((with_reducible refine Wp.wr_fdiv ?h1 ?go); (case h1 => exact ⟨by decide, by decide⟩))
  | ((with_reducible refine Wp.wc_divmod ?h1 (fun q => ?go)); (case h1 => exact ⟨by decide, by decide⟩))
  | ((with_reducible refine Wp.wr_mul ?h1 ?go); (case h1 => (walk_at "mul")))
  | with_reducible refine Wp.wr_lt ?_
  | with_reducible refine Wp.wr_le ?_
  | with_reducible refine Wp.wr_gt ?_
  | with_reducible refine Wp.wr_ge ?_
  | with_reducible refine Wp.wr_eqI ?_
  | with_reducible refine Wp.wr_neI ?_
  | with_reducible refine Wp.wr_eqB ?_
  | with_reducible refine Wp.wr_neB ?_
  | with_reducible refine Wp.wr_notB ?_
  | with_reducible refine Wp.wr_neS ?_
  | with_reducible refine Wp.wc_reprB ?_
  | with_reducible refine Wp.wr_isB ?_
  | with_reducible refine Wp.wu_neg ?_
  | with_reducible refine Wp.wc_isi_ii ?_
  | with_reducible refine Wp.wc_isi_ib ?_
  | with_reducible refine Wp.wc_isi_bi ?_
  | with_reducible refine Wp.wc_isi_bb ?_
  | with_reducible refine Wp.wc_isi_ni ?_
  | with_reducible refine Wp.wc_isi_si ?_
  | with_reducible refine Wp.we_andV ?_
  | with_reducible refine Wp.we_orV ?_
  | with_reducible refine Wp.we_notV ?_
  | with_reducible refine Wp.if_t ?_
  | with_reducible refine Wp.if_f ?_
  | with_reducible refine Wp.if_nt ?_
  | with_reducible refine Wp.if_nf ?_
  | with_reducible refine Wp.wr_p18 ?_
  | with_reducible refine Wp.wc_abs ?_
  | with_reducible refine Wp.wc_int ?_
  | with_reducible refine Wp.wc_intB ?_
  | with_reducible refine Wp.wc_max2 ?_
  | with_reducible refine Wp.wc_min2 ?_
  | with_reducible refine Wp.ws_next ?_
  | with_reducible refine Wp.we_lst ?_
  | with_reducible refine Wp.we_tup ?_
  | ((with_reducible refine' Wp.lst_go ?h1 ?h2 ?go); (case h1 => first | decide | exact Nat.le_of_ble_eq_true rfl); (case h2 => (walk_at "hasl")); intro _)
  | ((with_reducible refine' Wp.wr_neLN ?h1 ?h2 ?go); (case h1 => (walk_at "rdl")); (case h2 => (walk_at "rdl")))
  | ((with_reducible refine' Wp.wr_eqLN ?h1 ?h2 ?go); (case h1 => (walk_at "rdl")); (case h2 => (walk_at "rdl")))
  | ((with_reducible refine' Wp.wr_neL ?h1 ?h2 ?go); (case h1 => (walk_at "rdl")); (case h2 => (walk_at "rdl")))
  | ((with_reducible refine' Wp.wr_eqL ?h1 ?h2 ?go); (case h1 => (walk_at "rdl")); (case h2 => (walk_at "rdl")))
  | ((with_reducible refine' Wp.wc_lenI ?h1 ?go); (case h1 => (walk_at "rdl")))
  | ((with_reducible refine' Wp.wc_lenL ?h1 ?go); (case h1 => (walk_at "rdl")))
  | ((with_reducible refine' Wp.wc_lenT ?h1 ?go); (case h1 => (walk_at "rdt")))
  | ((with_reducible refine' Wp.wr_ixI ?h1 ?h2 ?h3 ?go); (case h1 => (walk_at "rdl")); (case h2 => (walk_at "ixs")); (case h3 => (walk_at "ixs")))
  | ((with_reducible refine' Wp.wg_tup ?h1 ?h2 ?go); (case h1 => (walk_at "rdt")); (case h2 => exact rfl))
  | ((with_reducible refine' Wp.gvs_d ?go); intro _)
  | with_reducible refine Wp.gvs_i ?_
  | with_reducible refine Wp.gvs_n ?_
  | with_reducible refine Wp.gvs_b ?_
  | with_reducible refine Wp.gvs_mi ?_
  | with_reducible refine Wp.gvs_mn ?_
  | with_reducible refine Wp.wgs_cons ?_
  | with_reducible refine Wp.wgs_nil ?_
  | with_reducible refine Wp.wg_name ?_
  | ((with_reducible refine' Wp.we_app ?h1 ?go); (case h1 => exact rfl))
  | ((with_reducible refine' ⟨_, _, rfl, ?rd, ?go⟩); (case rd => (walk_at "rdl")))
  | ((with_reducible refine' ⟨_, _, rfl, ?hs, ?go⟩); (case hs => (walk_at "has")))
  | ((with_reducible refine' ⟨0, _, _, rfl, ?h1, ?h2, ?h3, ?go⟩); (case h1 => exact rfl); (case h2 => (walk_at "has")); (case h3 => (walk_at "len")))
  | ((with_reducible refine' ⟨1, _, _, rfl, ?h1, ?h2, ?h3, ?go⟩); (case h1 => exact rfl); (case h2 => (walk_at "has")); (case h3 => (walk_at "len")))
  | ((with_reducible refine' ⟨2, _, _, rfl, ?h1, ?h2, ?h3, ?go⟩); (case h1 => exact rfl); (case h2 => (walk_at "has")); (case h3 => (walk_at "len")))
  | (with_reducible refine ⟨_, rfl, rfl, ?_⟩)
  | (with_reducible refine ⟨_, rfl, ?_⟩)
  | (with_reducible refine ⟨_, _, rfl, ?_⟩)
  )

namespace Lw
open PySem L2 Wp
def top (i : Nat) : Stmt := PySem.Challenge.pw_firstbooks_k92_numbers_taken_one_by_one.main.body.getD i (.Pass ⟨0, 0, 0, 0⟩)
abbrev s_law_pen : Stmt := top 15
abbrev n_law_pen : List Str := ["script"]
theorem sc_law_pen : FnScope n_law_pen ["script"] (defScope s_law_pen) := ⟨rfl, rfl, rfl, by decide +kernel, rfl, by decide +kernel, by decide +kernel⟩
abbrev s_law_draw : Stmt := top 16
abbrev n_law_draw : List Str := ["pen", "many", "digit", "turn", "cell", "primes", "prime", "drawn"]
theorem sc_law_draw : FnScope n_law_draw ["pen", "many"] (defScope s_law_draw) := ⟨rfl, rfl, rfl, by decide +kernel, rfl, by decide +kernel, by decide +kernel⟩
abbrev s_law_pick : Stmt := top 17
abbrev n_law_pick : List Str := ["pen", "some"]
theorem sc_law_pick : FnScope n_law_pick ["pen", "some"] (defScope s_law_pick) := ⟨rfl, rfl, rfl, by decide +kernel, rfl, by decide +kernel, by decide +kernel⟩
abbrev s_law_is_number : Stmt := top 18
abbrev n_law_is_number : List Str := ["thing"]
theorem sc_law_is_number : FnScope n_law_is_number ["thing"] (defScope s_law_is_number) := ⟨rfl, rfl, rfl, by decide +kernel, rfl, by decide +kernel, by decide +kernel⟩
abbrev s_law_is_barred : Stmt := top 19
abbrev n_law_is_barred : List Str := ["taken", "prime", "number", "step", "k"]
theorem sc_law_is_barred : FnScope n_law_is_barred ["taken", "prime", "number", "step"] (defScope s_law_is_barred) := ⟨rfl, rfl, rfl, by decide +kernel, rfl, by decide +kernel, by decide +kernel⟩
abbrev s_law_taken : Stmt := top 20
abbrev n_law_taken : List Str := ["prime", "upto", "found", "number", "steps", "d"]
theorem sc_law_taken : FnScope n_law_taken ["prime", "upto"] (defScope s_law_taken) := ⟨rfl, rfl, rfl, by decide +kernel, rfl, by decide +kernel, by decide +kernel⟩
abbrev s_is_whole : Stmt := top 3
abbrev n_is_whole : List Str := ["thing"]
theorem sc_is_whole : FnScope n_is_whole ["thing"] (defScope s_is_whole) := ⟨rfl, rfl, rfl, by decide +kernel, rfl, by decide +kernel, by decide +kernel⟩
abbrev s_need_prime : Stmt := top 6
abbrev n_need_prime : List Str := ["prime"]
theorem sc_need_prime : FnScope n_need_prime ["prime"] (defScope s_need_prime) := ⟨rfl, rfl, rfl, by decide +kernel, rfl, by decide +kernel, by decide +kernel⟩
abbrev s_signs_by : Stmt := top 7
abbrev n_signs_by : List Str := ["number", "base", "found", "sign"]
theorem sc_signs_by : FnScope n_signs_by ["number", "base"] (defScope s_signs_by) := ⟨rfl, rfl, rfl, by decide +kernel, rfl, by decide +kernel, by decide +kernel⟩
abbrev s_is_taken : Stmt := top 9
abbrev n_is_taken : List Str := ["prime", "number"]
theorem sc_is_taken : FnScope n_is_taken ["prime", "number"] (defScope s_is_taken) := ⟨rfl, rfl, rfl, by decide +kernel, rfl, by decide +kernel, by decide +kernel⟩
abbrev s_read_by : Stmt := top 8
abbrev n_read_by : List Str := ["signs", "base", "number", "sign"]
theorem sc_read_by : FnScope n_read_by ["signs", "base"] (defScope s_read_by) := ⟨rfl, rfl, rfl, by decide +kernel, rfl, by decide +kernel, by decide +kernel⟩
abbrev s_long_nth : Stmt := top 12
abbrev n_long_nth : List Str := ["prime", "place"]
theorem sc_long_nth : FnScope n_long_nth ["prime", "place"] (defScope s_long_nth) := ⟨rfl, rfl, rfl, by decide +kernel, rfl, by decide +kernel, by decide +kernel⟩
abbrev s_long_count : Stmt := top 13
abbrev n_long_count : List Str := ["prime", "below", "found", "can", "sign"]
theorem sc_long_count : FnScope n_long_count ["prime", "below"] (defScope s_long_count) := ⟨rfl, rfl, rfl, by decide +kernel, rfl, by decide +kernel, by decide +kernel⟩
abbrev s_long_step : Stmt := top 10
abbrev n_long_step : List Str := ["prime", "number", "step", "sign"]
theorem sc_long_step : FnScope n_long_step ["prime", "number"] (defScope s_long_step) := ⟨rfl, rfl, rfl, by decide +kernel, rfl, by decide +kernel, by decide +kernel⟩
abbrev s_is_long_step : Stmt := top 11
abbrev n_is_long_step : List Str := ["prime", "number", "step", "k"]
theorem sc_is_long_step : FnScope n_is_long_step ["prime", "number", "step"] (defScope s_is_long_step) := ⟨rfl, rfl, rfl, by decide +kernel, rfl, by decide +kernel, by decide +kernel⟩
abbrev s_law : Stmt := top 21
abbrev n_law : List Str := ["script", "pen", "turn", "prime", "upto", "taken", "mine", "number", "k", "again", "one", "step", "thing"]
theorem sc_law : FnScope n_law ["script"] (defScope s_law) := ⟨rfl, rfl, rfl, by decide +kernel, rfl, by decide +kernel, by decide +kernel⟩
/-! what the head tells -/
def tups : TupsT := [(fun K => He.ga K "PRIMES", [3, 5, 7, 11, 13, 17, 19, 23, 29, 31, 37, 41, 43, 47, 53, 59, 61, 67, 71, 73, 79, 83, 89, 97])]
structure Cn (K : Fg) : Prop where
  tp : ∀ t ∈ tups, tupB K (t.1 K) t.2 = true
structure Tx (K : Fg) (mg : Str → Option Value) : Prop where
  d_law_pen : ∃ fd, FunD K "_law_pen" "_law_pen" (defArgs s_law_pen) (defBody s_law_pen) (defScope s_law_pen) [] [] (He.ga K "_law_pen") fd
  g_law_pen : mg "_law_pen" = some (.ref (He.ga K "_law_pen"))
  d_law_draw : ∃ fd, FunD K "_law_draw" "_law_draw" (defArgs s_law_draw) (defBody s_law_draw) (defScope s_law_draw) [] [] (He.ga K "_law_draw") fd
  g_law_draw : mg "_law_draw" = some (.ref (He.ga K "_law_draw"))
  d_law_pick : ∃ fd, FunD K "_law_pick" "_law_pick" (defArgs s_law_pick) (defBody s_law_pick) (defScope s_law_pick) [] [] (He.ga K "_law_pick") fd
  g_law_pick : mg "_law_pick" = some (.ref (He.ga K "_law_pick"))
  d_law_is_number : ∃ fd, FunD K "_law_is_number" "_law_is_number" (defArgs s_law_is_number) (defBody s_law_is_number) (defScope s_law_is_number) [] [] (He.ga K "_law_is_number") fd
  g_law_is_number : mg "_law_is_number" = some (.ref (He.ga K "_law_is_number"))
  d_law_is_barred : ∃ fd, FunD K "_law_is_barred" "_law_is_barred" (defArgs s_law_is_barred) (defBody s_law_is_barred) (defScope s_law_is_barred) [] [] (He.ga K "_law_is_barred") fd
  g_law_is_barred : mg "_law_is_barred" = some (.ref (He.ga K "_law_is_barred"))
  d_law_taken : ∃ fd, FunD K "_law_taken" "_law_taken" (defArgs s_law_taken) (defBody s_law_taken) (defScope s_law_taken) [] [] (He.ga K "_law_taken") fd
  g_law_taken : mg "_law_taken" = some (.ref (He.ga K "_law_taken"))
  d_is_whole : ∃ fd, FunD K "is_whole" "is_whole" (defArgs s_is_whole) (defBody s_is_whole) (defScope s_is_whole) [] [] (He.ga K "is_whole") fd
  g_is_whole : mg "is_whole" = some (.ref (He.ga K "is_whole"))
  d_need_prime : ∃ fd, FunD K "need_prime" "need_prime" (defArgs s_need_prime) (defBody s_need_prime) (defScope s_need_prime) [] [] (He.ga K "need_prime") fd
  g_need_prime : mg "need_prime" = some (.ref (He.ga K "need_prime"))
  d_signs_by : ∃ fd, FunD K "signs_by" "signs_by" (defArgs s_signs_by) (defBody s_signs_by) (defScope s_signs_by) [] [] (He.ga K "signs_by") fd
  g_signs_by : mg "signs_by" = some (.ref (He.ga K "signs_by"))
  d_is_taken : ∃ fd, FunD K "is_taken" "is_taken" (defArgs s_is_taken) (defBody s_is_taken) (defScope s_is_taken) [] [] (He.ga K "is_taken") fd
  g_is_taken : mg "is_taken" = some (.ref (He.ga K "is_taken"))
  d_read_by : ∃ fd, FunD K "read_by" "read_by" (defArgs s_read_by) (defBody s_read_by) (defScope s_read_by) [] [] (He.ga K "read_by") fd
  g_read_by : mg "read_by" = some (.ref (He.ga K "read_by"))
  d_long_nth : ∃ fd, FunD K "long_nth" "long_nth" (defArgs s_long_nth) (defBody s_long_nth) (defScope s_long_nth) [] [] (He.ga K "long_nth") fd
  g_long_nth : mg "long_nth" = some (.ref (He.ga K "long_nth"))
  d_long_count : ∃ fd, FunD K "long_count" "long_count" (defArgs s_long_count) (defBody s_long_count) (defScope s_long_count) [] [] (He.ga K "long_count") fd
  g_long_count : mg "long_count" = some (.ref (He.ga K "long_count"))
  d_long_step : ∃ fd, FunD K "long_step" "long_step" (defArgs s_long_step) (defBody s_long_step) (defScope s_long_step) [] [] (He.ga K "long_step") fd
  g_long_step : mg "long_step" = some (.ref (He.ga K "long_step"))
  d_is_long_step : ∃ fd, FunD K "is_long_step" "is_long_step" (defArgs s_is_long_step) (defBody s_is_long_step) (defScope s_is_long_step) [] [] (He.ga K "is_long_step") fd
  g_is_long_step : mg "is_long_step" = some (.ref (He.ga K "is_long_step"))
  d_law : ∃ fd, FunD K "law" "law" (defArgs s_law) (defBody s_law) (defScope s_law) [] [] (He.ga K "law") fd
  g_law : mg "law" = some (.ref (He.ga K "law"))
  f_abs : mg "abs" = none
  f_all : mg "all" = none
  f_bool : mg "bool" = none
  f_divmod : mg "divmod" = none
  f_int : mg "int" = none
  f_isinstance : mg "isinstance" = none
  f_len : mg "len" = none
  f_list : mg "list" = none
  f_min : mg "min" = none
  f_range : mg "range" = none
  f_repr : mg "repr" = none
  f_reversed : mg "reversed" = none
  g_PRIMES : mg "PRIMES" = some (.ref (He.ga K "PRIMES"))
  cn : Cn K
/-! signs by a base; numbers by length -/
def bs (b n : Nat) : List Int := if n = 0 ∨ b < 2 then [] else bs b (n / b) ++ [((n % b : Nat) : Int)]
termination_by n
decreasing_by exact Nat.div_lt_self (by omega) (by omega)
theorem bs_zero {b : Nat} : bs b 0 = [] := by unfold bs; simp
theorem bs_pos {b n : Nat} (hb : 2 ≤ b) (h : n ≠ 0) : bs b n = bs b (n / b) ++ [((n % b : Nat) : Int)] := by
  conv => lhs; unfold bs
  rw [if_neg (by omega)]
theorem dlt {b n : Nat} (hb : 2 ≤ b) (h : n ≠ 0) : n / b < n := Nat.div_lt_self (by omega) (by omega)
theorem dm (b n : Nat) : b * (n / b) + n % b = n := Nat.div_add_mod n b
theorem ml {b n : Nat} (hb : 2 ≤ b) : n % b < b := Nat.mod_lt _ (by omega)
theorem on_div {b n k : Nat} (hk : k < b) : (b * n + k) / b = n := by
  rw [Nat.mul_add_div (by omega), Nat.div_eq_of_lt hk, Nat.add_zero]
theorem on_mod {b n k : Nat} (hk : k < b) : (b * n + k) % b = k := by
  rw [Nat.mul_add_mod, Nat.mod_eq_of_lt hk]
theorem bs_mem {b n : Nat} (hb : 2 ≤ b) : ∀ s ∈ bs b n, 0 ≤ s ∧ s < b := by
  induction n using Nat.strongRecOn with
  | ind n ih =>
    by_cases h : n = 0
    · subst h; rw [bs_zero]; intro s hs; cases hs
    · rw [bs_pos hb h]
      intro s hs
      rcases List.mem_append.mp hs with z | z
      · exact ih _ (dlt hb h) s z
      · rw [List.mem_singleton.mp z]
        have := ml (n := n) hb
        omega
theorem bs_len {b n L : Nat} (hb : 2 ≤ b) (h : n < 2 ^ L) : (bs b n).length ≤ L := by
  induction n using Nat.strongRecOn generalizing L with
  | ind n ih =>
    by_cases hn : n = 0
    · subst hn; rw [bs_zero]; simp
    · rw [bs_pos hb hn, List.length_append]
      cases L with
      | zero => simp at h; omega
      | succ L =>
        have : n / b < 2 ^ L := by
          have h1 : n / b ≤ n / 2 := Nat.div_le_div_left hb (by decide)
          rw [Nat.pow_succ] at h
          omega
        have := ih _ (dlt hb hn) this
        simp; omega
theorem bs_take {b : Nat} (hb : 2 ≤ b) (n i : Nat) : ∃ m, m ≤ n ∧ (bs b n).take i = bs b m := by
  induction n using Nat.strongRecOn with
  | ind n ih =>
    by_cases hi : (bs b n).length ≤ i
    · exact ⟨n, Nat.le_refl _, List.take_of_length_le hi⟩
    · by_cases hn : n = 0
      · subst hn; rw [bs_zero] at hi; simp at hi
      · obtain ⟨m, h1, h2⟩ := ih _ (dlt hb hn)
        refine ⟨m, Nat.le_trans h1 (Nat.le_of_lt (dlt hb hn)), ?_⟩
        rw [bs_pos hb hn, List.length_append] at hi
        rw [bs_pos hb hn, List.take_append_of_le_length (by simp at hi; omega)]
        exact h2
theorem take_snoc {α : Type} {l : List α} {i : Nat} (h : i < l.length) : l.take (i + 1) = l.take i ++ [l[i]] := List.take_succ_eq_append_getElem h
/-- reading signs, the greatest place first -/
def rdS (b : Int) (l : List Int) : Int := l.foldl (fun n s => n * b + s) 0
theorem rdS_app {b : Int} (l : List Int) (s : Int) : rdS b (l ++ [s]) = rdS b l * b + s := by
  unfold rdS
  rw [List.foldl_append]
  rfl
theorem rdS_lt {b : Nat} (hb : b ≤ 128) : ∀ (i : Nat) (l : List Int), l.length = i → (∀ s ∈ l, 0 ≤ s ∧ s < b) → 0 ≤ rdS b l ∧ rdS b l < (2 ^ (7 * i) : Nat)
  | 0, l, hl, _ => by
    rw [List.length_eq_zero_iff.mp hl]
    exact ⟨Int.le_refl _, Int.zero_lt_one⟩
  | i + 1, l, hl, h => by
    have hne : l ≠ [] := fun e => by rw [e] at hl; simp at hl
    obtain ⟨l', s, rfl⟩ : ∃ l' s, l = l' ++ [s] := ⟨l.dropLast, l.getLast hne, (List.dropLast_concat_getLast hne).symm⟩
    have h1 := rdS_lt hb i l' (by simp at hl; omega) fun x hx => h x (List.mem_append_left _ hx)
    have h2 := h s (List.mem_append_right _ List.mem_cons_self)
    rw [rdS_app]
    have e : (2 : Nat) ^ (7 * (i + 1)) = 2 ^ (7 * i) * 128 := by rw [Nat.mul_succ, Nat.pow_add]
    rw [e]
    generalize (2 : Nat) ^ (7 * i) = X at *
    generalize rdS b l' = y at *
    have h3 : y * (b : Int) ≤ (X - 1) * b := Int.mul_le_mul_of_nonneg_right (by omega) (by omega)
    have h4 : ((X : Int) - 1) * b ≤ (X - 1) * 128 := Int.mul_le_mul_of_nonneg_left (by omega) (by omega)
    have h5 : 0 ≤ y * (b : Int) := Int.mul_nonneg h1.1 (by omega)
    have h6 : y * (b : Int) + b ≤ X * b := by
      have := Int.mul_le_mul_of_nonneg_right (show y + 1 ≤ (X : Int) by omega) (show (0 : Int) ≤ b by omega)
      rw [Int.add_mul, Int.one_mul] at this
      exact this
    have h7 : (X : Int) * b ≤ X * 128 := Int.mul_le_mul_of_nonneg_left (by omega) (by omega)
    push_cast
    omega
section
variable {p : Nat}
def tk (p n : Nat) : Bool := if n = 0 ∨ p < 2 then true else tk p (n / p) && decide (n % p ≠ p - 1)
termination_by n
decreasing_by exact Nat.div_lt_self (by omega) (by omega)
def cnt (p n : Nat) : Nat := if n = 0 ∨ p < 2 then 0 else (p - 1) * cnt p (n / p) + if tk p (n / p) then n % p else 0
termination_by n
decreasing_by exact Nat.div_lt_self (by omega) (by omega)
def lnth (p n : Nat) : Nat := if n = 0 ∨ p < 3 then 0 else p * lnth p (n / (p - 1)) + n % (p - 1)
termination_by n
decreasing_by exact Nat.div_lt_self (by omega) (by omega)
theorem tk_zero : tk p 0 = true := by unfold tk; simp
theorem cnt_zero : cnt p 0 = 0 := by unfold cnt; simp
theorem lnth_zero : lnth p 0 = 0 := by unfold lnth; simp
theorem tk_on (hp : 3 ≤ p) {n k : Nat} (hk : k < p) : tk p (p * n + k) = (tk p n && decide (k ≠ p - 1)) := by
  by_cases h : p * n + k = 0
  · have h2 : k = 0 := by omega
    have h1 : n = 0 := by
      rcases Nat.mul_eq_zero.mp (show p * n = 0 by omega) with z | z
      · omega
      · exact z
    subst h1 h2
    rw [Nat.mul_zero, tk_zero]
    simp
    omega
  · conv => lhs; unfold tk
    rw [if_neg (by omega), on_div hk, on_mod hk]
theorem cnt_on (hp : 3 ≤ p) {n k : Nat} (hk : k < p) : cnt p (p * n + k) = (p - 1) * cnt p n + if tk p n then k else 0 := by
  by_cases h : p * n + k = 0
  · have h2 : k = 0 := by omega
    have h1 : n = 0 := by
      rcases Nat.mul_eq_zero.mp (show p * n = 0 by omega) with z | z
      · omega
      · exact z
    subst h1 h2
    rw [Nat.mul_zero, cnt_zero]
    simp
  · conv => lhs; unfold cnt
    rw [if_neg (by omega), on_div hk, on_mod hk]
theorem lnth_on (hp : 3 ≤ p) {n k : Nat} (hk : k < p - 1) : lnth p ((p - 1) * n + k) = p * lnth p n + k := by
  by_cases h : (p - 1) * n + k = 0
  · have h2 : k = 0 := by omega
    have h1 : n = 0 := by
      rcases Nat.mul_eq_zero.mp (show (p - 1) * n = 0 by omega) with z | z
      · omega
      · exact z
    subst h1 h2
    rw [Nat.mul_zero, lnth_zero, Nat.mul_zero]
  · conv => lhs; unfold lnth
    rw [if_neg (by omega), on_div hk, on_mod hk]
theorem tk_nth (hp : 3 ≤ p) (a : Nat) : tk p (lnth p a) = true := by
  induction a using Nat.strongRecOn with
  | ind a ih =>
    by_cases h : a = 0
    · subst h; rw [lnth_zero, tk_zero]
    · have hk := ml (n := a) (show 2 ≤ p - 1 by omega)
      rw [← dm (p - 1) a, lnth_on hp hk, tk_on hp (by omega), ih _ (dlt (by omega) h)]
      simp
      omega
theorem cnt_nth (hp : 3 ≤ p) (a : Nat) : cnt p (lnth p a) = a := by
  induction a using Nat.strongRecOn with
  | ind a ih =>
    by_cases h : a = 0
    · subst h; rw [lnth_zero, cnt_zero]
    · have hk := ml (n := a) (show 2 ≤ p - 1 by omega)
      conv => lhs; rw [← dm (p - 1) a, lnth_on hp hk, cnt_on hp (by omega), ih _ (dlt (by omega) h), tk_nth hp, if_pos rfl]
      exact dm _ _
theorem nth_cnt (hp : 3 ≤ p) (n : Nat) (ht : tk p n = true) : lnth p (cnt p n) = n := by
  induction n using Nat.strongRecOn with
  | ind n ih =>
    by_cases h : n = 0
    · subst h; rw [cnt_zero, lnth_zero]
    · have hk := ml (n := n) (show 2 ≤ p by omega)
      rw [← dm p n, tk_on hp hk, Bool.and_eq_true] at ht
      have h2 := of_decide_eq_true ht.2
      conv => lhs; rw [← dm p n, cnt_on hp hk, ht.1, if_pos rfl, lnth_on hp (by omega), ih _ (dlt (by omega) h) ht.1]
      exact dm _ _
theorem cnt_succ (hp : 3 ≤ p) (n : Nat) : cnt p (n + 1) = cnt p n + if tk p n then 1 else 0 := by
  induction n using Nat.strongRecOn with
  | ind n ih =>
    have hk := ml (n := n) (show 2 ≤ p by omega)
    have e0 := dm p n
    by_cases h : n % p + 1 < p
    · have e1 : n + 1 = p * (n / p) + (n % p + 1) := by omega
      rw [e1, cnt_on hp h]
      conv => rhs; rw [← e0, cnt_on hp hk, tk_on hp hk]
      have : decide (n % p ≠ p - 1) = true := decide_eq_true (by omega)
      rw [this, Bool.and_true]
      split <;> omega
    · have e2 : n % p = p - 1 := by omega
      have e1 : n + 1 = p * (n / p + 1) + 0 := by rw [Nat.mul_add, Nat.mul_one]; omega
      have hn : n ≠ 0 := fun e => by subst e; rw [Nat.zero_mod] at e2; omega
      rw [e1, cnt_on hp (by omega), ih _ (dlt (by omega) hn)]
      conv => rhs; rw [← e0, cnt_on hp hk, tk_on hp hk, e2]
      rw [Nat.mul_add]
      simp
      split <;> omega
theorem cnt_mono (hp : 3 ≤ p) {a b : Nat} (h : a ≤ b) : cnt p a ≤ cnt p b := by
  induction h with
  | refl => exact Nat.le_refl _
  | step _ ih => rw [cnt_succ hp]; omega
theorem cnt_le (hp : 3 ≤ p) (n : Nat) : cnt p n ≤ n := by
  induction n with
  | zero => rw [cnt_zero]; exact Nat.le_refl _
  | succ n ih => rw [cnt_succ hp]; split <;> omega
theorem cnt_nth1 (hp : 3 ≤ p) (a : Nat) : cnt p (lnth p a + 1) = a + 1 := by rw [cnt_succ hp, cnt_nth hp, tk_nth hp]; rfl
theorem nth_ge (hp : 3 ≤ p) (b : Nat) : b ≤ lnth p (cnt p b) := by
  apply Nat.le_of_not_lt
  intro h
  have h1 := cnt_mono hp (show lnth p (cnt p b) + 1 ≤ b from h)
  rw [cnt_nth1 hp] at h1
  omega
theorem nth_eq (hp : 3 ≤ p) (b : Nat) : lnth p (cnt p b) = b ↔ tk p b = true := ⟨fun e => by rw [← e]; exact tk_nth hp _, nth_cnt hp b⟩
theorem nth_lt (hp : 3 ≤ p) {a b : Nat} (h : a < cnt p b) : lnth p a < b := by
  apply Nat.lt_of_not_le
  intro h1
  have h2 := cnt_mono hp h1
  rw [cnt_nth hp] at h2
  omega
theorem nth_mono (hp : 3 ≤ p) {a b : Nat} (h : a < b) : lnth p a < lnth p b := nth_lt hp (by rw [cnt_nth hp]; exact h)
theorem cnt_pow (hp : 3 ≤ p) (k : Nat) : cnt p (p ^ k) = (p - 1) ^ k := by
  induction k with
  | zero =>
    have := cnt_on hp (n := 0) (k := 1) (by omega)
    rw [Nat.mul_zero, Nat.zero_add, cnt_zero, tk_zero] at this
    rw [Nat.pow_zero, Nat.pow_zero, this]
    simp
  | succ k ih =>
    have := cnt_on hp (n := p ^ k) (k := 0) (by omega)
    rw [Nat.add_zero, ih] at this
    rw [Nat.pow_succ, Nat.pow_succ, Nat.mul_comm (p ^ k), Nat.mul_comm _ (p - 1), this]
    simp
theorem nth_pow (hp : 3 ≤ p) (k : Nat) : lnth p ((p - 1) ^ k) = p ^ k := by
  have h : tk p (p ^ k) = true := by
    induction k with
    | zero =>
      have := tk_on hp (n := 0) (k := 1) (by omega)
      rw [Nat.mul_zero, Nat.zero_add, tk_zero] at this
      rw [Nat.pow_zero, this]
      simp
      omega
    | succ k ih =>
      have := tk_on hp (n := p ^ k) (k := 0) (by omega)
      rw [Nat.add_zero, ih] at this
      rw [Nat.pow_succ, Nat.mul_comm, this]
      simp
      omega
  have := nth_cnt hp (p ^ k) h
  rw [cnt_pow hp] at this
  exact this
theorem lnth_lt (hp : 3 ≤ p) (hp2 : p ≤ 97) {a L : Nat} (h : a < 2 ^ L) : lnth p a < 2 ^ (7 * L) := by
  induction L generalizing a with
  | zero =>
    have : a = 0 := by simp at h; omega
    subst this
    rw [lnth_zero]
    decide
  | succ L ih =>
    have hk := ml (n := a) (show 2 ≤ p - 1 by omega)
    have h1 : a / (p - 1) < 2 ^ L := by
      have h1 : a / (p - 1) ≤ a / 2 := Nat.div_le_div_left (by omega) (by decide)
      rw [Nat.pow_succ] at h
      omega
    have h2 := ih h1
    rw [← dm (p - 1) a, lnth_on hp hk, show 7 * (L + 1) = 7 * L + 7 by omega, Nat.pow_add]
    generalize (2 : Nat) ^ (7 * L) = X at *
    have h3 : p * (lnth p (a / (p - 1)) + 1) ≤ p * X := Nat.mul_le_mul_left _ h2
    have h4 : p * X ≤ 97 * X := Nat.mul_le_mul_right _ hp2
    rw [Nat.mul_add] at h3
    omega
/-- what the walks compute -/
theorem rdS_bs (hp : 3 ≤ p) (a : Nat) : rdS p (bs (p - 1) a) = lnth p a := by
  induction a using Nat.strongRecOn with
  | ind a ih =>
    by_cases h : a = 0
    · subst h; rw [bs_zero, lnth_zero]; rfl
    · have hk := ml (n := a) (show 2 ≤ p - 1 by omega)
      rw [bs_pos (by omega) h, rdS_app, ih _ (dlt (by omega) h)]
      conv => rhs; rw [← dm (p - 1) a, lnth_on hp hk]
      push_cast
      rw [Int.mul_comm]
def cfS (p : Nat) (l : List Int) : Int × Bool := l.foldl (fun z s => (z.1 * ((p : Int) - 1) + (if z.2 = true then s else 0), z.2 && !decide (s = (p : Int) - 1))) (0, true)
theorem cfS_app (l : List Int) (s : Int) : cfS p (l ++ [s]) = ((cfS p l).1 * ((p : Int) - 1) + (if (cfS p l).2 = true then s else 0), (cfS p l).2 && !decide (s = (p : Int) - 1)) := by
  unfold cfS
  rw [List.foldl_append]
  rfl
theorem cfS_bs (hp : 3 ≤ p) (n : Nat) : cfS p (bs p n) = ((cnt p n : Int), tk p n) := by
  induction n using Nat.strongRecOn with
  | ind n ih =>
    by_cases h : n = 0
    · subst h; rw [bs_zero, cnt_zero, tk_zero]; rfl
    · have hk := ml (n := n) (show 2 ≤ p by omega)
      rw [bs_pos (by omega) h, cfS_app, ih _ (dlt (by omega) h)]
      conv => rhs; rw [← dm p n, cnt_on hp hk, tk_on hp hk]
      have e : ((p : Int) - 1) = ((p - 1 : Nat) : Int) := by omega
      refine Prod.ext ?_ ?_
      · show _ * _ + _ = _
        rw [e]
        push_cast
        rw [Int.mul_comm]
        split <;> rfl
      · show (_ && _) = (_ && _)
        congr 1
        rw [e]
        by_cases h5 : n % p = p - 1
        · simp [h5]
        · have : ¬ ((n % p : Nat) : Int) = ((p - 1 : Nat) : Int) := by omega
          simp only [h5, decide_eq_false this, ne_eq, not_false_eq_true, decide_true, Bool.not_false]
theorem tk_bs (hp : 3 ≤ p) (n : Nat) : tk p n = !decide (((p : Int) - 1) ∈ bs p n) := by
  induction n using Nat.strongRecOn with
  | ind n ih =>
    by_cases h : n = 0
    · subst h; rw [bs_zero, tk_zero]; rfl
    · have hk := ml (n := n) (show 2 ≤ p by omega)
      conv => lhs; rw [← dm p n, tk_on hp hk, ih _ (dlt (by omega) h)]
      rw [bs_pos (by omega) h]
      have e : (((p : Int) - 1) ∈ bs p (n / p) ++ [((n % p : Nat) : Int)]) ↔ (((p : Int) - 1) ∈ bs p (n / p) ∨ n % p = p - 1) := by
        rw [List.mem_append, List.mem_singleton]
        exact or_congr Iff.rfl ⟨fun z => by omega, fun z => by omega⟩
      rw [decide_eq_decide.mpr e, Bool.decide_or]
      simp
end
abbrev prs : List Int := [3, 5, 7, 11, 13, 17, 19, 23, 29, 31, 37, 41, 43, 47, 53, 59, 61, 67, 71, 73, 79, 83, 89, 97]
theorem prs_ge {p : Nat} (h : (p : Int) ∈ prs) : 3 ≤ p ∧ p ≤ 97 := by
  simp only [prs, List.mem_cons, List.not_mem_nil, or_false] at h
  omega
/-! steps that bar -/
section
variable {p : Nat}
def lstep (p n : Nat) : Nat := if n = 0 ∨ p < 2 then 0 else p * lstep p (n / p) + if n % p = p - 1 then 1 else 0
termination_by n
decreasing_by exact Nat.div_lt_self (by omega) (by omega)
theorem lstep_zero : lstep p 0 = 0 := by unfold lstep; simp
theorem lstep_on (hp : 3 ≤ p) {n k : Nat} (hk : k < p) : lstep p (p * n + k) = p * lstep p n + if k = p - 1 then 1 else 0 := by
  by_cases h : p * n + k = 0
  · have h2 : k = 0 := by omega
    have h1 : n = 0 := by
      rcases Nat.mul_eq_zero.mp (show p * n = 0 by omega) with z | z
      · omega
      · exact z
    subst h1 h2
    rw [Nat.mul_zero, lstep_zero, if_neg (by omega)]
    simp
  · conv => lhs; unfold lstep
    rw [if_neg (by omega), on_div hk, on_mod hk]
theorem lstep_tk (hp : 3 ≤ p) (n : Nat) : lstep p n = 0 ↔ tk p n = true := by
  induction n using Nat.strongRecOn with
  | ind n ih =>
    by_cases h : n = 0
    · subst h; simp [lstep_zero, tk_zero]
    · have hk := ml (n := n) (show 2 ≤ p by omega)
      have i := ih (n / p) (dlt (by omega) h)
      rw [← dm p n, lstep_on hp hk, tk_on hp hk, Bool.and_eq_true, ← i, decide_eq_true_eq]
      constructor
      · intro z
        have h1 : p * lstep p (n / p) = 0 := by omega
        have h2 : ¬ n % p = p - 1 := fun e => by rw [if_pos e] at z; omega
        rcases Nat.mul_eq_zero.mp h1 with y | y
        · omega
        · exact ⟨y, h2⟩
      · rintro ⟨y, z⟩
        rw [y, if_neg z]
        simp
theorem lstep_ok (hp : 3 ≤ p) (n : Nat) : (p - 1) * lstep p n ≤ n ∧ ∀ k, 1 ≤ k → k ≤ p - 1 → tk p (n - k * lstep p n) = true := by
  induction n using Nat.strongRecOn with
  | ind n ih =>
    by_cases h : n = 0
    · subst h; simp [lstep_zero, tk_zero]
    · have hk := ml (n := n) (show 2 ≤ p by omega)
      obtain ⟨i1, i2⟩ := ih (n / p) (dlt (by omega) h)
      have e0 := dm p n
      have es := lstep_on hp (n := n / p) hk
      rw [e0] at es
      have main : ∀ k, k ≤ p - 1 → k * lstep p n = p * (k * lstep p (n / p)) + (if n % p = p - 1 then k else 0) ∧ p * (k * lstep p (n / p)) ≤ p * (n / p) := by
        intro k hk1
        constructor
        · rw [es, Nat.mul_add, Nat.mul_left_comm]
          split <;> simp
        · exact Nat.mul_le_mul_left _ (Nat.le_trans (Nat.mul_le_mul_right _ hk1) i1)
      constructor
      · obtain ⟨m1, m2⟩ := main (p - 1) (Nat.le_refl _)
        rw [m1]
        split <;> omega
      · intro k h1 h2
        obtain ⟨m1, m2⟩ := main k h2
        rw [m1]
        have e3 : n - (p * (k * lstep p (n / p)) + (if n % p = p - 1 then k else 0)) = p * (n / p - k * lstep p (n / p)) + (n % p - if n % p = p - 1 then k else 0) := by
          rw [Nat.mul_sub]
          split <;> omega
        rw [e3, tk_on hp (by split <;> omega), i2 k h1 h2, Bool.true_and]
        refine decide_eq_true ?_
        split <;> omega
theorem invs : (prs.all fun p => (List.range p.toNat).all fun s => decide (s = 0) || decide ((s * (s ^ (p.toNat - 2) % p.toNat)) % p.toNat = 1)) = true := by decide +kernel
theorem inv_of (hr : (p : Int) ∈ prs) {s : Nat} (hs : s % p ≠ 0) : ∃ i, (s * i) % p = 1 := by
  obtain ⟨h3, h97⟩ := prs_ge hr
  have h1 := List.all_eq_true.mp invs _ hr
  have h2 := List.all_eq_true.mp h1 (s % p) (List.mem_range.mpr (ml (by show 2 ≤ (p : Int).toNat; omega)))
  rw [Bool.or_eq_true, decide_eq_true_eq, decide_eq_true_eq] at h2
  rcases h2 with h2 | h2
  · exact absurd h2 hs
  · refine ⟨(s % p) ^ (p - 2) % p, ?_⟩
    rw [Nat.mul_mod] at h2
    rw [Nat.mul_mod]
    simpa using h2
theorem no_step (hr : (p : Int) ∈ prs) (s : Nat) (h1 : 1 ≤ s) (n : Nat) (hn : (p - 1) * s ≤ n) (ht : tk p n = true) : ∃ k, 1 ≤ k ∧ k ≤ p - 1 ∧ tk p (n - k * s) = false := by
  obtain ⟨hp, h97⟩ := prs_ge hr
  induction s using Nat.strongRecOn generalizing n with
  | ind s ih =>
    have hk := ml (n := n) (show 2 ≤ p by omega)
    have e0 := dm p n
    have ht' := ht
    rw [← e0, tk_on hp hk, Bool.and_eq_true, decide_eq_true_eq] at ht'
    by_cases hs : s % p = 0
    · have e1 := dm p s
      rw [hs, Nat.add_zero] at e1
      have hs1 : 1 ≤ s / p := by
        apply Nat.pos_of_ne_zero
        intro z
        rw [z] at e1
        omega
      have e2 : (p - 1) * s = p * ((p - 1) * (s / p)) := by rw [Nat.mul_left_comm, e1]
      have h3 : (p - 1) * (s / p) ≤ n / p := by
        rw [Nat.le_div_iff_mul_le (by omega), Nat.mul_comm _ p, ← e2]
        exact hn
      obtain ⟨k, k1, k2, k3⟩ := ih (s / p) (dlt (by omega) (by omega)) hs1 (n / p) h3 ht'.1
      refine ⟨k, k1, k2, ?_⟩
      have e3 : k * s = p * (k * (s / p)) := by rw [Nat.mul_left_comm, e1]
      have h4 : p * (k * (s / p)) ≤ p * (n / p) := Nat.mul_le_mul_left _ (Nat.le_trans (Nat.mul_le_mul_right _ k2) h3)
      have e4 : n - k * s = p * (n / p - k * (s / p)) + n % p := by
        rw [Nat.mul_sub, e3]
        omega
      rw [e4, tk_on hp hk, k3, Bool.false_and]
    · obtain ⟨i, hi⟩ := inv_of hr hs
      have e1 : (((n + 1) * i) % p * s) % p = (n + 1) % p := by
        rw [Nat.mod_mul_mod, Nat.mul_assoc, Nat.mul_comm i s, Nat.mul_mod, hi, Nat.mul_one, Nat.mod_mod]
      have hk2 : ((n + 1) * i) % p < p := Nat.mod_lt _ (by omega)
      generalize ((n + 1) * i) % p = k at *
      have h4 : k * s ≤ n := Nat.le_trans (Nat.mul_le_mul_right _ (by omega)) hn
      have e2 : (n + 1 - k * s) % p = 0 := Nat.sub_mod_eq_zero_of_mod_eq e1.symm
      have e3 := dm p (n + 1 - k * s)
      rw [e2, Nat.add_zero] at e3
      have hc : 1 ≤ (n + 1 - k * s) / p := by
        apply Nat.pos_of_ne_zero
        intro z
        rw [z] at e3
        omega
      have e4 : n - k * s = p * ((n + 1 - k * s) / p - 1) + (p - 1) := by
        have := Nat.mul_sub p ((n + 1 - k * s) / p) 1
        have h5 : p * 1 ≤ p * ((n + 1 - k * s) / p) := Nat.mul_le_mul_left _ hc
        omega
      have hf : tk p (n - k * s) = false := by
        rw [e4, tk_on hp (by omega)]
        simp
      refine ⟨k, ?_, by omega, hf⟩
      apply Nat.pos_of_ne_zero
      rintro rfl
      rw [Nat.zero_mul, Nat.sub_zero, ht] at hf
      cases hf
def ilS (p n s : Nat) : Bool := decide (1 ≤ s) && (decide ((p - 1) * s ≤ n) && ((rInts 1 (p - 1)).map fun k => tk p (n - k.toNat * s)).all id)
theorem ilS_iff {n s : Nat} : ilS p n s = true ↔ 1 ≤ s ∧ (p - 1) * s ≤ n ∧ ∀ k, 1 ≤ k → k ≤ p - 1 → tk p (n - k * s) = true := by
  unfold ilS
  rw [Bool.and_eq_true, Bool.and_eq_true, decide_eq_true_eq, decide_eq_true_eq, List.all_eq_true]
  refine and_congr Iff.rfl (and_congr Iff.rfl ⟨fun h k h1 h2 => ?_, fun h b hb => ?_⟩)
  · have := h (tk p (n - k * s)) (List.mem_map.mpr ⟨(k : Int), rInts_mem.mpr (by omega), by rw [Int.toNat_natCast]⟩)
    exact this
  · obtain ⟨k, hk, rfl⟩ := List.mem_map.mp hb
    have := rInts_mem.mp hk
    exact h k.toNat (by omega) (by omega)
theorem ilS_tk (hr : (p : Int) ∈ prs) {n s : Nat} (ht : tk p n = true) : ilS p n s = false := by
  cases h : ilS p n s with
  | false => rfl
  | true =>
    obtain ⟨h1, h2, h3⟩ := ilS_iff.mp h
    obtain ⟨k, k1, k2, k3⟩ := no_step hr s h1 n h2 ht
    rw [h3 k k1 k2] at k3
    cases k3
theorem ilS_step (hp : 3 ≤ p) {n : Nat} (h : 1 ≤ lstep p n) : ilS p n (lstep p n) = true := ilS_iff.mpr ⟨h, (lstep_ok hp n).1, (lstep_ok hp n).2⟩
theorem rdS_step (hp : 3 ≤ p) (n : Nat) : rdS p ((bs p n).map fun s => if s = (p : Int) - 1 then 1 else 0) = lstep p n := by
  induction n using Nat.strongRecOn with
  | ind n ih =>
    by_cases h : n = 0
    · subst h; rw [bs_zero, lstep_zero]; rfl
    · have hk := ml (n := n) (show 2 ≤ p by omega)
      rw [bs_pos (by omega) h, List.map_append, List.map_cons, List.map_nil, rdS_app, ih (n / p) (dlt (by omega) h)]
      conv => rhs; rw [← dm p n, lstep_on hp hk]
      push_cast
      rw [Int.mul_comm]
      by_cases e : n % p = p - 1
      · rw [if_pos e, if_pos (by omega)]; rfl
      · rw [if_neg e, if_neg (by omega)]; rfl
end
/-! things as steps -/
def vW (v : V) : Bool := vInt v && !vBool v
def vNum : V → Bool
  | .int i => decide (0 ≤ i)
  | _ => false
def ilV (p n : Nat) : V → Bool
  | .int s => if 1 ≤ s then ilS p n s.toNat else false
  | _ => false
theorem taken_ok {p : Nat} (hr : (p : Int) ∈ prs) (n : Nat) : decide ((rInts 1 (n / (p - 1))).filter (fun d => ilS p n d.toNat) = []) = tk p n := by
  obtain ⟨h3, h97⟩ := prs_ge hr
  cases ht : tk p n with
  | true =>
    refine decide_eq_true ?_
    rw [List.filter_eq_nil_iff]
    intro d hd
    rw [ilS_tk hr ht]
    decide
  | false =>
    refine decide_eq_false fun h => ?_
    have h0 : ¬ lstep p n = 0 := fun e => by rw [(lstep_tk h3 n).mp e] at ht; cases ht
    have h1 := ilS_step h3 (n := n) (by omega)
    have h2 := (lstep_ok h3 n).1
    have hm : (lstep p n : Int) ∈ rInts 1 (n / (p - 1)) := rInts_mem.mpr ⟨by omega, by
      have : lstep p n ≤ n / (p - 1) := by
        rw [Nat.le_div_iff_mul_le (by omega), Nat.mul_comm]
        exact h2
      omega⟩
    have := List.filter_eq_nil_iff.mp h _ hm
    rw [Int.toNat_natCast, h1] at this
    exact absurd rfl this
theorem getD_tk {p m i : Nat} (h : i < m) : ((List.range m).map (tk p)).getD i false = tk p i := by
  rw [List.getD_eq_getElem?_getD, List.getElem?_map, List.getElem?_range h]
  rfl
theorem all_filter (f : Int → Bool) (xs : List Int) : decide (xs.filter (fun k => !f k) = []) = (xs.map f).all id := by
  induction xs with
  | nil => simp
  | cons x xs ih =>
    rw [List.map_cons, List.all_cons, ← ih, List.filter_cons]
    cases f x <;> simp
def mineI (p u : Nat) : List Int := (List.range (cnt p u)).map fun i => ((lnth p i : Nat) : Int)
theorem rInts0 (u : Nat) : rInts 0 u = (List.range u).map fun i => ((i : Nat) : Int) := by
  unfold rInts
  exact List.map_congr_left fun i _ => by omega
theorem mine_eq {p : Nat} (hp : 3 ≤ p) (u : Nat) : (rInts 0 u).filter (fun k => tk p k.toNat) = mineI p u := by
  rw [rInts0]
  unfold mineI
  induction u with
  | zero => rw [cnt_zero]; rfl
  | succ u ih =>
    rw [List.range_succ, List.map_append, List.filter_append, ih, cnt_succ hp]
    cases ht : tk p u with
    | true =>
      rw [if_pos rfl, List.range_succ, List.map_append]
      simp [ht, nth_cnt hp u ht]
    | false => simp [ht]
theorem mine_less {p : Nat} (hp : 3 ≤ p) {u y : Nat} (h : y ≤ u) : (mineI p u).filter (fun x => decide (x < (y : Int))) = mineI p y := by
  rw [← mine_eq hp u, ← mine_eq hp y, List.filter_filter]
  induction h with
  | refl =>
    apply List.filter_congr
    intro x hx
    have := rInts_mem.mp hx
    rw [decide_eq_true (by omega), Bool.true_and]
  | step h ih =>
    rename_i m
    have hm : y ≤ m := h
    rw [rInts0, List.range_succ, List.map_append, List.filter_append, ← rInts0, ih]
    have : ¬ ((m : Int) < y) := by omega
    simp [this]
theorem mine_len {p u : Nat} : (mineI p u).length = cnt p u := by unfold mineI; rw [List.length_map, List.length_range]
theorem mine_get {p u k : Nat} (h : k < cnt p u) : (mineI p u).getD k 0 = lnth p k := by
  unfold mineI
  rw [List.getD_eq_getElem?_getD, List.getElem?_map, List.getElem?_range h]
  rfl
def TD : PyData → Prop
  | .int s => s.natAbs < 2 ^ 300
  | .bool _ => True
  | .none => True
  | .str _ => True
  | .tuple _ => True
  | _ => False
theorem gv_thg {K : Fg} {D : DL} {d : PyData} {k : V → DL → Prop} (h : TD d) (bad : ∀ s ds, k (.int s) ((.int s, .tuple ds) :: D)) (g : ∀ v D', (∀ x ∈ D, x ∈ D') → Thg K D' v → (∀ s, v = .int s → s.natAbs < 2 ^ 300) → k v D') : Gv d D k := by
  cases d with
  | int s => exact g _ D (fun _ z => z) (.inl ⟨_, rfl⟩) (fun s' e => by cases e; exact h)
  | bool b => exact g _ D (fun _ z => z) (.inr (.inl ⟨_, rfl⟩)) (fun s' e => by cases e)
  | none => exact g _ D (fun _ z => z) (.inr (.inr (.inl rfl))) (fun s' e => by cases e)
  | str s => exact g _ D (fun _ z => z) (.inr (.inr (.inr (.inl ⟨_, rfl⟩)))) (fun s' e => by cases e)
  | tuple l =>
    intro v
    by_cases hv : ∃ s, v = .int s
    · obtain ⟨s, rfl⟩ := hv
      exact bad s l
    · exact g v _ (fun x z => List.mem_cons_of_mem _ z) (.inr (.inr (.inr (.inr ⟨l, has_hd⟩)))) (fun s' e => absurd ⟨s', e⟩ hv)
  | _ => exact h.elim
section
variable {P : Program} {w : World} {K : Fg} {mg : Str → Option Value} {base : Heap}
/-! _law_pen -/
def R_law_pen (K : Fg) : AW := fun vs D O P => ∃ (v : V) (ns : List Int), vs = [v] ∧ Has K D v (dI ns) ∧ ∀ p, P (.ref p) D (PenE K p 0 :: O)
def t_law_pen (K : Fg) : TS :=
  (tRet (tDisp (((tC (.str "cells")), (tCB (rLST K) (tCons (tSl (rSlL K) (tVar 0) tNoPart (tPart (tC (.int 63)))) tNil))) :: (((tC (.str "turn")), (tC (.int 0))) :: (((tC (.str "left")), (tC (.int 0))) :: [])))))
theorem ws_law_pen {K : Fg} {vs : List V} {D : DL} {O : OL} {P : V → DL → OL → Prop} (h : R_law_pen K vs D O P) : WS K (t_law_pen K) (start n_law_pen vs) D O (Pf K P) := by
  obtain ⟨v, ns, rfl, hv, k⟩ := h
  unfold t_law_pen
  refine ws_ret (we_disp fun p => wps_cons ?_)
  repeat (walk_at "w")
  rename_i l0 l1
  refine wps_frz (wps_imp imp_drop ?_)
  refine wps_cons ?_
  repeat (walk_at "w")
  refine wps_cons ?_
  repeat (walk_at "w")
  refine wps_nil ?_
  refine ⟨[(.inr "cells", .ref l1), (.inr "turn", .int 0), (.inr "left", .int 0)], penK (ns.take 63) 0 0, O, rfl, by show 3 ≤ 15; decide, ?_, ?_, ?_⟩
  · exact fun Hi f => .cons ⟨rfl, f _ List.mem_cons_self⟩ (.cons ⟨rfl, .int 0⟩ (.cons ⟨rfl, .int 0⟩ .nil))
  · exact Imp.refl
  · rw [pen_made]
    exact ⟨D, _, k p, (imp_pen (n := 0) (by rw [List.length_take]; omega) (by decide) (by decide) (by decide)).trans (by walk_at "imp")⟩
theorem ok_law_pen (T : Tx K mg) : OkF P w K mg base 2 "_law_pen" ["script"] (R_law_pen K) := by
  obtain ⟨fd, F⟩ := T.d_law_pen
  refine ⟨fd, F.ok sc_law_pen (fun vs H Q E h => h.1) (fun cdv A outer s H vs Q E hr h => ?_), FunD.bindsN F (fun _ _ _ _ _ _ us hl => match us, hl with | [_], _ => rfl), F.kp, T.g_law_pen, fun_lk F⟩
  have hu := hu_of hr
  exact ⟨t_law_pen K, PSs.nox
    (pss_one (ps_ret (pe_disp (pps_cons pe_str (pe_callTy call_list_of (by rfl) T.f_list (by decide +kernel) (pa_cons (pe_slice sl_list (pv 0) po_none (po_some pe_int)) pa_nil)) (pps_cons pe_str pe_int (pps_cons pe_str pe_int pps_nil))) (by rfl) (by rfl) (fun z => by cases z) (by decide)))),
    body_of n_law_pen (fun D O P hR => ws_law_pen hR) h⟩
/-! _law_draw -/
def R_law_draw (K : Fg) : AW := fun vs D O P => ∃ (p : Addr) (n : Nat) (m : Int) (O' : OL), vs = [.ref p, .int m] ∧ O.Perm (PenE K p n :: O') ∧ 0 < m ∧ m.natAbs < 2 ^ 1000 ∧ n < maxN ∧ ∀ r, 0 ≤ r → r < m → P (.int r) D (PenE K p (n + 1) :: O')
def t_law_draw (K : Fg) : TS :=
  (tSeq (tIfS (tTest (tOp rGT (tDGet (tVar 0) (tC (.str "left"))) (tC (.int 0)))) (tSeq (tAsg (tOp rMOD (tDGet (tVar 0) (tC (.str "left"))) (tVar 1)) (gName 2))
  (tSeq (sDPut (tVar 0) (tC (.str "left")) (tOp rFDIV (tDGet (tVar 0) (tC (.str "left"))) (tVar 1)))
  (tRet (tVar 2)))) tNext)
  (tSeq (tAsg (tDGet (tVar 0) (tC (.str "turn"))) (gName 3))
  (tSeq (sDPut (tVar 0) (tC (.str "turn")) (tOp (rADD K) (tVar 3) (tC (.int 1))))
  (tSeq (tAsg (tOp (rADD K) (tOp rMUL (tC (.int 37)) (tVar 3)) (tC (.int 13))) (gName 4))
  (tSeq (tIfS (tTest (tOp (rNE K) (tDGet (tVar 0) (tC (.str "cells"))) (tLst tNil))) (tAsg (tOp (L2.rIx K) (tDGet (tVar 0) (tC (.str "cells"))) (tOp rMOD (tVar 3) (tCB (rLEN K) (tCons (tDGet (tVar 0) (tC (.str "cells"))) tNil)))) (gName 4)) tNext)
  (tSeq (tIfS (tAnd (tTest (tOp rLT (tVar 3) (tCB (rLEN K) (tCons (tDGet (tVar 0) (tC (.str "cells"))) tNil)))) (tTest (tOp rGE (tCB rABS (tCons (tVar 4) tNil)) (tOp rPOW (tC (.int 10)) (tC (.int 18)))))) (tSeq (sDPut (tVar 0) (tC (.str "left")) (tOp rFDIV (tOp rSUB (tCB rABS (tCons (tVar 4) tNil)) (tOp rPOW (tC (.int 10)) (tC (.int 18)))) (tVar 1)))
  (tRet (tOp rMOD (tOp rSUB (tCB rABS (tCons (tVar 4) tNil)) (tOp rPOW (tC (.int 10)) (tC (.int 18)))) (tVar 1)))) tNext)
  (tSeq (tAsg (tLst (tCons (tC (.int 2147483647)) (tCons (tC (.int 2147483629)) (tCons (tC (.int 2147483587)) (tCons (tC (.int 2147483579)) (tCons (tC (.int 2147483563)) tNil)))))) (gName 5))
  (tSeq (tAsg (tOp (L2.rIx K) (tVar 5) (tOp rMOD (tVar 3) (tC (.int 5)))) (gName 6))
  (tSeq (tAsg (tOp rMOD (tOp (rADD K) (tOp (rADD K) (tOp rMUL (tOp rMOD (tVar 4) (tVar 6)) (tC (.int 48271))) (tOp rMUL (tOp rMUL (tC (.int 40507)) (tVar 3)) (tVar 3))) (tC (.int 31))) (tVar 6)) (gName 7))
  (tSeq (tAsg (tOp rMOD (tOp rMUL (tVar 7) (tOp (rADD K) (tVar 7) (tC (.int 69621)))) (tOp (L2.rIx K) (tVar 5) (tOp rMOD (tOp (rADD K) (tVar 3) (tC (.int 2))) (tC (.int 5))))) (gName 7))
  (tRet (tOp rMOD (tOp rFDIV (tOp rMOD (tOp rMUL (tVar 7) (tVar 7)) (tC (.int 2147483549))) (tC (.int 64))) (tVar 1)))))))))))))
theorem ws_law_draw {K : Fg} {vs : List V} {D : DL} {O : OL} {P : V → DL → OL → Prop} (h : R_law_draw K vs D O P) : WS K (t_law_draw K) (start n_law_draw vs) D O (Pf K P) := by
  obtain ⟨p, n, m, O', rfl, hp, hm, hm2, hn, k⟩ := h
  refine ws_imp (imp_perm hp) (ws_pen fun c t l hc ht htn hl => ?_)
  have hts := pen_small ht htn hn
  unfold t_law_draw
  refine ws_seq (ws_if ?_)
  repeat (walk_at "w")
  refine if_dec (fun h => ?_) (fun h => ?_)
  · repeat (walk_at "w")
    refine wr_fdiv (wide_div hm hm2 (by decide) (by decide)) ?_
    repeat (walk_at "w")
    exact ⟨D, _, k _ (Int.emod_nonneg _ (by omega)) (Int.emod_lt_of_pos _ hm), imp_pen hc ht (by omega) (Int.ediv_nonneg hl (by omega))⟩
  repeat (walk_at "w")
  refine ws_cut (fun σ' D' O2 => ∃ cell : Int, σ' = [some (.ref p), some (.int m), none, some (.int t), some (.int cell), none, none, none] ∧ D' = D ∧ O2 = dicE K p (penK c (t + 1) l) :: O') (ws_if ?_) ?_
  · repeat (walk_at "w")
    refine if_ndec (fun hc0 => ?_) (fun hc0 => ?_)
    · have hc1 : 0 < c.length := List.length_pos_iff.mpr hc0
      repeat (walk_at "w")
      refine wr_ixI (by walk_at "rdl") (Int.emod_nonneg _ (by omega)) (Int.emod_lt_of_pos _ (by omega)) ?_
      exact ⟨D, _, ⟨_, rfl, rfl, rfl⟩, by walk_at "imp"⟩
    · repeat (walk_at "w")
      exact ⟨D, _, ⟨_, rfl, rfl, rfl⟩, by walk_at "imp"⟩
  rintro σ' D' O2 ⟨cell, rfl, rfl, rfl⟩
  refine ws_cut (fun σ2 D2 O2 => σ2 = [some (.ref p), some (.int m), none, some (.int t), some (.int cell), none, none, none] ∧ D2 = D' ∧ O2 = dicE K p (penK c (t + 1) l) :: O') (ws_if ?_) ?_
  · repeat (walk_at "w")
    refine if_dec (fun h1 => ?_) (fun h1 => ?_)
    · repeat (walk_at "w")
      refine if_dec (fun h2 => ?_) (fun h2 => ?_)
      · repeat (walk_at "w")
        refine wr_fdiv (wide_div hm hm2 (by decide) (by decide)) ?_
        repeat (walk_at "w")
        exact ⟨D', _, k _ (Int.emod_nonneg _ (by omega)) (Int.emod_lt_of_pos _ hm), (imp_pen (n := n + 1) hc (by omega) (by omega) (Int.ediv_nonneg (by omega) (by omega))).trans (by walk_at "imp")⟩
      · repeat (walk_at "w")
        exact ⟨D', _, ⟨rfl, rfl, rfl⟩, by walk_at "imp"⟩
    · refine if_f ?_
      repeat (walk_at "w")
      exact ⟨D', _, ⟨rfl, rfl, rfl⟩, by walk_at "imp"⟩
  rintro σ2 D2 O2 ⟨rfl, rfl, rfl⟩
  repeat (walk_at "w")
  refine wr_ixM (fun x => 0 < x ∧ x < 4294967296) (by walk_at "rdl") (Int.emod_nonneg _ (by omega)) (by show t % 5 < 5; omega) (by intro x hx; simp at hx; omega) (fun pr hpr => ?_)
  repeat (walk_at "w")
  have c1 : 0 ≤ cell % pr ∧ cell % pr < pr := ⟨Int.emod_nonneg _ (by omega), Int.emod_lt_of_pos _ hpr.1⟩
  refine wr_mul (cmulx_of (a := 64) (b := 64) (by omega) (by decide) (by decide) (by decide) (by decide)) ?_
  repeat (walk_at "w")
  refine wr_mul (cmulx_of (a := 128) (b := 64) (by omega) (by omega) (by decide) (by decide) (by decide)) ?_
  repeat (walk_at "w")
  generalize hdr : (cell % pr * 48271 + 40507 * t * t + 31) % pr = dr
  have hdr2 : 0 ≤ dr ∧ dr < pr := by rw [← hdr]; exact ⟨Int.emod_nonneg _ (by omega), Int.emod_lt_of_pos _ hpr.1⟩
  refine wr_mul (cmulx_of (a := 64) (b := 64) (by omega) (by omega) (by decide) (by decide) (by decide)) ?_
  repeat (walk_at "w")
  refine wr_ixM (fun x => 0 < x ∧ x < 4294967296) (by walk_at "rdl") (Int.emod_nonneg _ (by omega)) (by show (t + 2) % 5 < 5; omega) (by intro x hx; simp at hx; omega) (fun ps hps => ?_)
  repeat (walk_at "w")
  generalize hds : dr * (dr + 69621) % ps = ds
  have hds2 : 0 ≤ ds ∧ ds < ps := by rw [← hds]; exact ⟨Int.emod_nonneg _ (by omega), Int.emod_lt_of_pos _ hps.1⟩
  refine wr_mul (cmulx_of (a := 64) (b := 64) (by omega) (by omega) (by decide) (by decide) (by decide)) ?_
  repeat (walk_at "w")
  exact ⟨_, _, k _ (Int.emod_nonneg _ (by omega)) (Int.emod_lt_of_pos _ hm), (imp_pen (n := n + 1) hc (by omega) (by omega) hl).trans (by walk_at "imp")⟩
theorem ok_law_draw (T : Tx K mg) : OkF P w K mg base 2 "_law_draw" ["pen", "many"] (R_law_draw K) := by
  obtain ⟨fd, F⟩ := T.d_law_draw
  refine ⟨fd, F.ok sc_law_draw (fun vs H Q E h => h.1) (fun cdv A outer s H vs Q E hr h => ?_), FunD.bindsN F (fun _ _ _ _ _ _ us hl => match us, hl with | [_, _], _ => rfl), F.kp, T.g_law_draw, fun_lk F⟩
  have hu := hu_of hr
  exact ⟨t_law_draw K, PSs.nox
    (pss_cons (ps_if (pt_cmpR op_gt (pe_dget hu (pv 0) pe_str (fun _ _ => rfl)) pe_int (by first | exact nomark _ | rfl)) (pss_cons (ps_set (i := 2) sc_law_draw.nd rfl (by first | exact Or.inl rfl | exact Or.inr rfl) (pe_op oMOD (pe_dget hu (pv 0) pe_str (fun _ _ => rfl)) (pv 1)))
      (pss_cons (ps_dput hu (pv 0) pe_str (pe_op oFDIV (pe_dget hu (pv 0) pe_str (fun _ _ => rfl)) (pv 1)) rfl)
      (pss_one (ps_ret (pv 2))))) pss_nil)
      (pss_cons (ps_set (i := 3) sc_law_draw.nd rfl (by first | exact Or.inl rfl | exact Or.inr rfl) (pe_dget hu (pv 0) pe_str (fun _ _ => rfl)))
      (pss_cons (ps_dput hu (pv 0) pe_str (pe_op oADD (pv 3) pe_int) rfl)
      (pss_cons (ps_set (i := 4) sc_law_draw.nd rfl (by first | exact Or.inl rfl | exact Or.inr rfl) (pe_op oADD (pe_op oMUL pe_int (pv 3)) pe_int))
      (pss_cons (ps_if (pt_cmpR (oNE hr.units) (pe_dget hu (pv 0) pe_str (fun _ _ => rfl)) (pe_lst pa_nil) (by first | exact nomark _ | rfl)) (pss_one (ps_set (i := 4) sc_law_draw.nd rfl (by first | exact Or.inl rfl | exact Or.inr rfl) (pe_ix ix_seq (pe_dget hu (pv 0) pe_str (fun _ _ => rfl)) (pe_op oMOD (pv 3) (pe_callB cLEN (by rfl) T.f_len (by decide +kernel) (pa_cons (pe_dget hu (pv 0) pe_str (fun _ _ => rfl)) pa_nil))) (fun _ _ => rfl)))) pss_nil)
      (pss_cons (ps_if (PW.pt (pw_and (pt_cmpR op_lt (pv 3) (pe_callB cLEN (by rfl) T.f_len (by decide +kernel) (pa_cons (pe_dget hu (pv 0) pe_str (fun _ _ => rfl)) pa_nil)) (by first | exact nomark _ | rfl)) (pw_and1 (pt_cmpR op_ge (pe_callB call_abs (by rfl) T.f_abs (by decide +kernel) (pa_cons (pv 4) pa_nil)) (pe_op oPOW pe_int pe_int) (by first | exact nomark _ | rfl))))) (pss_cons (ps_dput hu (pv 0) pe_str (pe_op oFDIV (pe_op oSUB (pe_callB call_abs (by rfl) T.f_abs (by decide +kernel) (pa_cons (pv 4) pa_nil)) (pe_op oPOW pe_int pe_int)) (pv 1)) rfl)
      (pss_one (ps_ret (pe_op oMOD (pe_op oSUB (pe_callB call_abs (by rfl) T.f_abs (by decide +kernel) (pa_cons (pv 4) pa_nil)) (pe_op oPOW pe_int pe_int)) (pv 1))))) pss_nil)
      (pss_cons (ps_set (i := 5) sc_law_draw.nd rfl (by first | exact Or.inl rfl | exact Or.inr rfl) (pe_lst (pa_cons pe_int (pa_cons pe_int (pa_cons pe_int (pa_cons pe_int (pa_cons pe_int pa_nil)))))))
      (pss_cons (ps_set (i := 6) sc_law_draw.nd rfl (by first | exact Or.inl rfl | exact Or.inr rfl) (pe_ix ix_seq (pv 5) (pe_op oMOD (pv 3) pe_int) (fun _ _ => rfl)))
      (pss_cons (ps_set (i := 7) sc_law_draw.nd rfl (by first | exact Or.inl rfl | exact Or.inr rfl) (pe_op oMOD (pe_op oADD (pe_op oADD (pe_op oMUL (pe_op oMOD (pv 4) (pv 6)) pe_int) (pe_op oMUL (pe_op oMUL pe_int (pv 3)) (pv 3))) pe_int) (pv 6)))
      (pss_cons (ps_set (i := 7) sc_law_draw.nd rfl (by first | exact Or.inl rfl | exact Or.inr rfl) (pe_op oMOD (pe_op oMUL (pv 7) (pe_op oADD (pv 7) pe_int)) (pe_ix ix_seq (pv 5) (pe_op oMOD (pe_op oADD (pv 3) pe_int) pe_int) (fun _ _ => rfl))))
      (pss_one (ps_ret (pe_op oMOD (pe_op oFDIV (pe_op oMOD (pe_op oMUL (pv 7) (pv 7)) pe_int) pe_int) (pv 1)))))))))))))),
    body_of n_law_draw (fun D O P hR => ws_law_draw hR) h⟩
/-! _law_pick -/
def R_law_pick (K : Fg) : AW := fun vs D O P => ∃ (p : Addr) (n : Nat) (v : V) (ds : List PyData) (O' : OL), vs = [.ref p, v] ∧ O.Perm (PenE K p n :: O') ∧ Has K D v (.list ds) ∧ 0 < ds.length ∧ ds.length < 1000000 ∧ n < maxN ∧ ∀ d ∈ ds, Gv d D fun v D' => P v D' (PenE K p (n + 1) :: O')
def t_law_pick (K : Fg) : TS :=
  (tRet (tOp (L2.rIx K) (tVar 1) (tCall (spW K 2 (R_law_draw K)) [] E0 (tCons (tVar 0) (tCons (tCB (rLEN K) (tCons (tVar 1) tNil)) tNil)))))
theorem ws_law_pick {K : Fg} {vs : List V} {D : DL} {O : OL} {P : V → DL → OL → Prop} (h : R_law_pick K vs D O P) : WS K (t_law_pick K) (start n_law_pick vs) D O (Pf K P) := by
  obtain ⟨p, n, v, ds, O', rfl, hp, hv, h0, h1, hn, k⟩ := h
  unfold t_law_pick
  repeat (walk_at "w")
  refine ⟨_, _, Imp.refl, rfl, p, n, _, O', rfl, hp, by omega, by omega, hn, fun r hr0 hr1 => ?_⟩
  refine wr_ixD (n := 0) (d := .none) (by walk_at "rdl") hr0 hr1 fun d hd => ?_
  exact (k d hd).imp fun v D' z => Wk.of z
theorem ok_law_pick (T : Tx K mg) : OkF P w K mg base 3 "_law_pick" ["pen", "some"] (R_law_pick K) := by
  obtain ⟨d_law_draw, G_law_draw, b_law_draw, k_law_draw, m_law_draw, _⟩ := ok_law_draw (P := P) (w := w) (base := base) T
  obtain ⟨fd, F⟩ := T.d_law_pick
  refine ⟨fd, F.ok sc_law_pick (fun vs H Q E h => h.1) (fun cdv A outer s H vs Q E hr h => ?_), FunD.bindsN F (fun _ _ _ _ _ _ us hl => match us, hl with | [_, _], _ => rfl), F.kp, T.g_law_pick, fun_lk F⟩
  have hu := hu_of hr
  exact ⟨t_law_pick K, PSs.nox
    (pss_one (ps_ret (pe_ix ix_seq (pv 1) (pe_call G_law_draw (hr.mono (by decide)) (by rfl) m_law_draw k_law_draw b_law_draw .nil pass0 (pa_cons (pv 0) (pa_cons (pe_callB cLEN (by rfl) T.f_len (by decide +kernel) (pa_cons (pv 1) pa_nil)) pa_nil))) (fun _ _ => rfl)))),
    body_of n_law_pick (fun D O P hR => ws_law_pick hR) h⟩
/-! _law_is_number -/
def R_law_is_number (K : Fg) : AW := fun vs D O P => ∃ v : V, vs = [v] ∧ Thg K D v ∧ P (.bl (vNum v)) D O
def t_law_is_number (K : Fg) : TS :=
  (tRet (tAndV (tCB (rIsi K) (tCons (tVar 0) (tCons (tC (.ty "int")) tNil))) (tAndV (tNotV (tCB (rIsi K) (tCons (tVar 0) (tCons (tC (.ty "bool")) tNil)))) (tOp rGE (tVar 0) (tC (.int 0))))))
theorem ws_law_is_number {K : Fg} {vs : List V} {D : DL} {O : OL} {P : V → DL → OL → Prop} (h : R_law_is_number K vs D O P) : WS K (t_law_is_number K) (start n_law_is_number vs) D O (Pf K P) := by
  obtain ⟨v, rfl, hv, k⟩ := h
  unfold t_law_is_number
  repeat (walk_at "w")
  refine thg_int hv ?_
  repeat (walk_at "w")
  refine if_b (fun h1 => ?_) (fun h1 => ?_)
  · repeat (walk_at "w")
    refine thg_bool hv ?_
    repeat (walk_at "w")
    cases v with
    | int i =>
      refine if_yes rfl ?_
      repeat (walk_at "w")
      exact Wk.of k
    | bl b =>
      refine if_no rfl ?_
      exact Wk.of k
    | _ => cases h1
  · have e : vNum v = false := by
      cases v with
      | int i => cases h1
      | _ => rfl
    rw [e] at k
    exact Wk.of k
theorem ok_law_is_number (T : Tx K mg) : OkF P w K mg base 2 "_law_is_number" ["thing"] (R_law_is_number K) := by
  obtain ⟨fd, F⟩ := T.d_law_is_number
  refine ⟨fd, F.ok sc_law_is_number (fun vs H Q E h => h.1) (fun cdv A outer s H vs Q E hr h => ?_), FunD.bindsN F (fun _ _ _ _ _ _ us hl => match us, hl with | [_], _ => rfl), F.kp, T.g_law_is_number, fun_lk F⟩
  have hu := hu_of hr
  exact ⟨t_law_is_number K, PSs.nox
    (pss_one (ps_ret (pe_and (pe_callB call_isi (by rfl) T.f_isinstance (by decide +kernel) (pa_cons (pv 0) (pa_cons (pe_bltn (v := .ty "int") (by rfl) T.f_int (by decide +kernel) rfl) pa_nil))) (pe_and (pe_not (pe_callB call_isi (by rfl) T.f_isinstance (by decide +kernel) (pa_cons (pv 0) (pa_cons (pe_bltn (v := .ty "bool") (by rfl) T.f_bool (by decide +kernel) rfl) pa_nil)))) (pe_one (pe_cmpR op_ge (pv 0) pe_int (by first | exact nomark _ | rfl))))))),
    body_of n_law_is_number (fun D O P hR => ws_law_is_number hR) h⟩
/-! _law_is_barred -/
def R_law_is_barred (K : Fg) : AW := fun vs D O P => ∃ (a : Addr) (p n m : Nat) (v : V), vs = [.ref a, .int p, .int n, v] ∧ RdL K D O (.ref a) (((List.range m).map (tk p)).map .bool) ∧ n ≤ m ∧ m ≤ 1000 ∧ (p : Int) ∈ prs ∧ Thg K D v ∧ (∀ s, v = .int s → s.natAbs < 2 ^ 300) ∧ P (.bl (ilV p n v)) D O
def t_law_is_barred (K : Fg) : TS :=
  (tSeq (tIfS (tOr (tNot (tTru K (tCall (spW K 1 (R_law_is_number K)) [] E0 (tCons (tVar 3) tNil)))) (tOr (tTest (tOp rLT (tVar 3) (tC (.int 1)))) (tTest (tOp rGT (tOp rMUL (tOp rSUB (tVar 1) (tC (.int 1))) (tVar 3)) (tVar 2))))) (tRet (tC (.bl false))) tNext)
  (tRet (tOp (rEQ K) (tLc (iRng2 (tCons (tC (.int 1)) (tCons (tVar 1) tNil))) (gName 4) (tNot (tTru K (tOp (L2.rIx K) (tVar 0) (tOp rSUB (tVar 2) (tOp rMUL (tVar 4) (tVar 3)))))) (tVar 4) [4]) (tLst tNil))))
theorem ws_law_is_barred {K : Fg} {vs : List V} {D : DL} {O : OL} {P : V → DL → OL → Prop} (h : R_law_is_barred K vs D O P) : WS K (t_law_is_barred K) (start n_law_is_barred vs) D O (Pf K P) := by
  obtain ⟨a, p, n, m, v, rfl, hrd, hnm, hm, hp, hv, hs, k⟩ := h
  obtain ⟨h3, h97⟩ := prs_ge hp
  have hp1 : (p : Int) - 1 = ((p - 1 : Nat) : Int) := by omega
  unfold t_law_is_barred
  by_cases h : ∃ s : Nat, v = .int s ∧ 1 ≤ s ∧ (p - 1) * s ≤ n
  · obtain ⟨s, rfl, h1, h2⟩ := h
    have hsb := hs _ rfl
    have e1 : ((p - 1 : Nat) : Int) * (s : Int) ≤ n := by
      rw [← Int.natCast_mul]
      omega
    have ek : ilV p n (.int s) = decide ((rInts 1 (p - 1)).filter (fun k => !tk p (n - k.toNat * s)) = []) := by
      show (if (1 : Int) ≤ s then ilS p n (s : Int).toNat else false) = _
      rw [if_pos (by omega), Int.toNat_natCast, all_filter (fun k => tk p (n - k.toNat * s))]
      unfold ilS
      rw [decide_eq_true h1, decide_eq_true h2, Bool.true_and, Bool.true_and]
    refine ws_seq (ws_skip ?t ?_)
    case t =>
      repeat (walk_at "w")
      refine ⟨_, _, Imp.refl, rfl, _, rfl, hv, ?_⟩
      repeat (walk_at "w")
      refine if_no (by simp [vNum]) ?_
      repeat (walk_at "w")
      refine if_ne (by omega) ?_
      repeat (walk_at "w")
      refine wr_mul (cmulx_of (a := 64) (b := 300) (by omega) (by omega) (by decide) (by decide) (by decide)) ?_
      repeat (walk_at "w")
      rw [hp1]
      exact ⟨decide_eq_false (by omega), Imp.refl⟩
    repeat (walk_at "w")
    refine we_lcI (fun k => !tk p (n - k.toNat * s)) .int (((rInts 1 (p - 1)).filter (fun k => !tk p (n - k.toNat * s))).map .int) ?_
    repeat (walk_at "w")
    rw [show ((p : Int) - 1).toNat = p - 1 by omega]
    refine ⟨by omega, trivial, by rw [rInts_len]; omega, fun x hx q acc => ?_, rfl, fun q => ?_⟩
    · have hx2 := rInts_mem.mp hx
      obtain ⟨y, rfl⟩ := Int.eq_ofNat_of_zero_le (show 0 ≤ x by omega)
      have hy : y * s ≤ n := Nat.le_trans (Nat.mul_le_mul_right _ (by omega)) h2
      have hy1 : 1 * 1 ≤ y * s := Nat.mul_le_mul (by omega) h1
      repeat (walk_at "w")
      refine ⟨rfl, ?_⟩
      repeat (walk_at "w")
      refine wr_mul (cmulx_of (a := 64) (b := 300) (by omega) (by omega) (by decide) (by decide) (by decide)) ?_
      repeat (walk_at "w")
      have ei : (n : Int) - (y : Int) * (s : Int) = ((n - y * s : Nat) : Int) := by
        rw [Int.ofNat_sub hy]
        rfl
      rw [ei]
      refine wr_ixB (rdl_consB hrd) (by omega) (by rw [List.length_map, List.length_range]; omega) ?_
      rw [Int.toNat_natCast, getD_tk (by omega)]
      repeat (walk_at "w")
      refine if_b (fun _ => ?_) (fun _ => Imp.refl)
      repeat (walk_at "w")
      exact ⟨fun _ => has_int, Imp.refl⟩
    repeat (walk_at "w")
    rw [ek] at k
    exact ⟨_, _, k, by walk_at "imp"⟩
  · have e : ilV p n v = false := by
      cases v with
      | int s =>
        show (if (1 : Int) ≤ s then ilS p n s.toNat else false) = false
        by_cases h1 : 1 ≤ s
        · rw [if_pos h1]
          unfold ilS
          have h2 : ¬ (p - 1) * s.toNat ≤ n := fun h2 => h ⟨s.toNat, by rw [Int.toNat_of_nonneg (by omega)], by omega, h2⟩
          rw [decide_eq_false h2, Bool.false_and, Bool.and_false]
        · rw [if_neg h1]
      | _ => rfl
    rw [e] at k
    refine ws_seq (ws_if ?_)
    repeat (walk_at "w")
    refine ⟨_, _, Imp.refl, rfl, _, rfl, hv, ?_⟩
    repeat (walk_at "w")
    refine if_b (fun h1 => ?_) (fun h1 => ?_)
    · refine if_t ?_
      repeat (walk_at "w")
      exact Wk.of k
    · cases v with
      | int s =>
        have hs0 : 0 ≤ s := by
          have : vNum (.int s) = true := by cases hz : vNum (.int s) <;> simp [hz] at h1 ⊢
          exact of_decide_eq_true this
        obtain ⟨s, rfl⟩ := Int.eq_ofNat_of_zero_le hs0
        have hsb := hs _ rfl
        repeat (walk_at "w")
        refine if_dec (fun h2 => ?_) (fun h2 => ?_)
        · refine if_t ?_
          repeat (walk_at "w")
          exact Wk.of k
        repeat (walk_at "w")
        refine wr_mul (cmulx_of (a := 64) (b := 300) (by omega) (by omega) (by decide) (by decide) (by decide)) ?_
        repeat (walk_at "w")
        have e1 : (n : Int) < ((p : Int) - 1) * (s : Int) := by
          have h3 : ¬ (p - 1) * s ≤ n := fun h3 => h ⟨s, rfl, by omega, h3⟩
          rw [hp1, ← Int.natCast_mul]
          omega
        refine if_yes (decide_eq_true e1) ?_
        repeat (walk_at "w")
        exact Wk.of k
      | _ => cases h1
theorem ok_law_is_barred (T : Tx K mg) : OkF P w K mg base 3 "_law_is_barred" ["taken", "prime", "number", "step"] (R_law_is_barred K) := by
  obtain ⟨d_law_is_number, G_law_is_number, b_law_is_number, k_law_is_number, m_law_is_number, _⟩ := ok_law_is_number (P := P) (w := w) (base := base) T
  obtain ⟨fd, F⟩ := T.d_law_is_barred
  refine ⟨fd, F.ok sc_law_is_barred (fun vs H Q E h => h.1) (fun cdv A outer s H vs Q E hr h => ?_), FunD.bindsN F (fun _ _ _ _ _ _ us hl => match us, hl with | [_, _, _, _], _ => rfl), F.kp, T.g_law_is_barred, fun_lk F⟩
  have hu := hu_of hr
  exact ⟨t_law_is_barred K, PSs.nox
    (pss_cons (ps_if (PW.pt (pw_or (pt_not (pt_truth (pe_call G_law_is_number (hr.mono (by decide)) (by rfl) m_law_is_number k_law_is_number b_law_is_number .nil pass0 (pa_cons (pv 3) pa_nil)) (by intro _; rfl))) (pw_or (pt_cmpR op_lt (pv 3) pe_int (by first | exact nomark _ | rfl)) (pw_or1 (pt_cmpR op_gt (pe_op oMUL (pe_op oSUB (pv 1) pe_int) (pv 3)) (pv 2) (by first | exact nomark _ | rfl)))))) (pss_one (ps_ret pe_bl)) pss_nil)
      (pss_one (ps_ret (pe_cmpR (oEQ hr.units) (pe_lc (own := [("k", 4)]) (by rfl) sc_law_is_barred.nd (pi_range2 (by rfl) T.f_range (pa_cons pe_int (pa_cons (pv 1) pa_nil))) (blkOk_by (own := [("k", 4)]) (N := n_law_is_barred) (sc := defScope s_law_is_barred) (by decide +kernel)) (fun _ _ _ _ _ => (pg_name (i := 4) sc_law_is_barred.nd rfl (by first | exact Or.inl rfl | exact Or.inr rfl))) (fun _ _ _ _ _ => (pts_one (pt_not (pt_truth (pe_ix ix_seq (pv 0) (pe_op oSUB (pv 2) (pe_op oMUL (pv 4) (pv 3))) (fun _ _ => rfl)) (by intro _; rfl))))) (fun _ _ _ _ _ => (pv 4))) (pe_lst pa_nil) (by first | exact nomark _ | rfl))))),
    body_of n_law_is_barred (fun D O P hR => ws_law_is_barred hR) h⟩
/-! _law_taken -/
def R_law_taken (K : Fg) : AW := fun vs D O P => ∃ (p u : Nat), vs = [.int p, .int u] ∧ (p : Int) ∈ prs ∧ u ≤ 1000 ∧ ∀ q, P (.ref q) D (lstE K q (((List.range u).map (tk p)).map .bool) :: O)
def t_law_taken (K : Fg) : TS :=
  (tSeq (tAsg (tLst tNil) (gName 2))
  (tSeq (tFor (iRng1 (tCons (tVar 1) tNil)) (gName 3) (tSeq (tAsg (tLc (iRng2 (tCons (tC (.int 1)) (tCons (tOp (rADD K) (tOp rFDIV (tVar 3) (tOp rSUB (tVar 0) (tC (.int 1)))) (tC (.int 1))) tNil))) (gName 5) (tTru K (tCall (spW K 4 (R_law_is_barred K)) [] E0 (tCons (tVar 2) (tCons (tVar 0) (tCons (tVar 3) (tCons (tVar 5) tNil)))))) (tVar 5) [5]) (gName 4))
  (tDrop (tBM K "list" rAppend (tVar 2) (tCons (tOp (rEQ K) (tVar 4) (tLst tNil)) tNil)))))
  (tRet (tVar 2))))
theorem ws_law_taken {K : Fg} {vs : List V} {D : DL} {O : OL} {P : V → DL → OL → Prop} (h : R_law_taken K vs D O P) : WS K (t_law_taken K) (start n_law_taken vs) D O (Pf K P) := by
  obtain ⟨p, u, rfl, hp, hu, k⟩ := h
  obtain ⟨h3, h97⟩ := prs_ge hp
  have hp1 : (p : Int) - 1 = ((p - 1 : Nat) : Int) := by omega
  unfold t_law_taken
  refine ws_seq (ws_set (we_lstO (wa_nil ⟨by decide, _, hasl_nil, fun f => ?_⟩)))
  refine ws_seq (ws_forR1 ?_)
  repeat (walk_at "w")
  refine ⟨_, fun i σ' D' O' => ∃ u3 u4 u5 : Option V, σ' = [some (.int p), some (.int u), some (.ref f), u3, u4, u5] ∧ D' = D ∧ O' = lstE K f (((List.range i).map (tk p)).map .bool) :: O, rfl, ⟨by omega, by omega⟩, Nx.of ⟨_, _, _, rfl, rfl, rfl⟩, ?_, ?_⟩
  · rintro i σ' D' O' hi ⟨u3, u4, u5, rfl, rfl, rfl⟩
    have hi2 : i < u := hi
    repeat (walk_at "w")
    refine we_lcI (fun d => ilS p i d.toNat) .int (((rInts 1 (i / (p - 1))).filter fun d => ilS p i d.toNat).map .int) ?_
    repeat (walk_at "w")
    refine wr_fdiv (wide_div (by omega) (b := 64) (by omega) (by decide) (by decide)) ?_
    repeat (walk_at "w")
    have ediv : (i : Int) / ((p : Int) - 1) = ((i / (p - 1) : Nat) : Int) := by rw [hp1]; rfl
    have hdl : i / (p - 1) ≤ i := Nat.div_le_self _ _
    rw [ediv]
    generalize hdd : i / (p - 1) = dd at *
    rw [show ((dd : Int) + 1 - 1).toNat = dd by omega]
    refine ⟨by omega, trivial, by rw [rInts_len]; omega, fun x hx q acc => ?_, rfl, fun q => ?_⟩
    · have hx2 := rInts_mem.mp hx
      obtain ⟨y, rfl⟩ := Int.eq_ofNat_of_zero_le (show 0 ≤ x by omega)
      repeat (walk_at "w")
      refine ⟨rfl, ?_⟩
      repeat (walk_at "w")
      refine ⟨_, _, Imp.refl, rfl, f, p, i, i, .int y, rfl, by walk_at "rdl", by omega, by omega, hp, .inl ⟨_, rfl⟩, ?_, ?_⟩
      · intro s hs
        cases hs
        have : (1000 : Nat) < 2 ^ 300 := by decide
        omega
      rw [show ilV p i (.int y) = ilS p i (y : Int).toNat from if_pos (by omega)]
      repeat (walk_at "w")
      refine if_b (fun _ => ?_) (fun _ => Imp.refl)
      repeat (walk_at "w")
      exact ⟨fun _ => has_int, Imp.refl⟩
    have e_len : (List.map PyData.bool (List.map (tk p) (List.range i))).length < 1000000 := by
      rw [List.length_map, List.length_map, List.length_range]
      omega
    repeat (walk_at "w")
    have key := taken_ok hp i
    rw [hdd] at key
    have er : ((List.range (i + 1)).map (tk p)).map PyData.bool = ((List.range i).map (tk p)).map PyData.bool ++ [.bool (tk p i)] := by
      rw [List.range_succ, List.map_append, List.map_append]
      rfl
    refine ⟨D', lstE K f (((List.range (i + 1)).map (tk p)).map .bool) :: O, ⟨some (.int i), some (.ref q), u5, rfl, rfl, rfl⟩, ?_⟩
    rw [er, ← key]
    walk_at "imp"
  · rintro σ' D' O' ⟨u3, u4, u5, rfl, rfl, rfl⟩
    repeat (walk_at "w")
    exact Wk.of (k f)
theorem ok_law_taken (T : Tx K mg) : OkF P w K mg base 4 "_law_taken" ["prime", "upto"] (R_law_taken K) := by
  obtain ⟨d_law_is_barred, G_law_is_barred, b_law_is_barred, k_law_is_barred, m_law_is_barred, _⟩ := ok_law_is_barred (P := P) (w := w) (base := base) T
  obtain ⟨fd, F⟩ := T.d_law_taken
  refine ⟨fd, F.ok sc_law_taken (fun vs H Q E h => h.1) (fun cdv A outer s H vs Q E hr h => ?_), FunD.bindsN F (fun _ _ _ _ _ _ us hl => match us, hl with | [_, _], _ => rfl), F.kp, T.g_law_taken, fun_lk F⟩
  have hu := hu_of hr
  exact ⟨t_law_taken K, PSs.nox
    (pss_cons (ps_set (i := 2) sc_law_taken.nd rfl (by first | exact Or.inl rfl | exact Or.inr rfl) (pe_lst pa_nil))
      (pss_cons (ps_for PassesOwn.never rfl (pi_range1 (by rfl) T.f_range (pa_cons (pv 1) pa_nil)) (pg_name (i := 3) sc_law_taken.nd rfl (by first | exact Or.inl rfl | exact Or.inr rfl)) (pss_cons (ps_setLc (i := 4) (own := [("d", 5)]) (by rfl) sc_law_taken.nd rfl rfl (sw_true rfl rfl rfl (by decide +kernel)) (pi_range2 (by rfl) T.f_range (pa_cons pe_int (pa_cons (pe_op oADD (pe_op oFDIV (pv 3) (pe_op oSUB (pv 0) pe_int)) pe_int) pa_nil))) (blkOk_by (own := [("d", 5)]) (N := n_law_taken) (sc := defScope s_law_taken) (by decide +kernel)) (fun _ _ _ _ _ => (pg_name (i := 5) sc_law_taken.nd rfl (by first | exact Or.inl rfl | exact Or.inr rfl))) (fun _ _ _ _ _ => (pts_one (pt_truth (pe_call G_law_is_barred (hr.mono (by decide)) (by rfl) m_law_is_barred k_law_is_barred b_law_is_barred .nil pass0 (pa_cons (pv 2) (pa_cons (pv 0) (pa_cons (pv 3) (pa_cons (pv 5) pa_nil))))) (by intro _; rfl)))) (fun _ _ _ _ _ => (pv 5)))
      (pss_one (ps_expr (pe_bm PySem.F.plainAttrs_list PySem.F.slot_list_append PySem.F.type_list_append mt_append (pv 2) (pa_cons (pe_cmpR (oEQ hr.units) (pv 4) (pe_lst pa_nil) (by first | exact nomark _ | rfl)) pa_nil))))))
      (pss_one (ps_ret (pv 2))))),
    body_of n_law_taken (fun D O P hR => ws_law_taken hR) h⟩
/-! is_whole -/
def R_is_whole (K : Fg) : AW := fun vs D O P => ∃ v : V, vs = [v] ∧ Thg K D v ∧ P (.bl (vW v)) D O
def t_is_whole (K : Fg) : TS :=
  (tRet (tAndV (tCB (rIsi K) (tCons (tVar 0) (tCons (tC (.ty "int")) tNil))) (tNotV (tCB (rIsi K) (tCons (tVar 0) (tCons (tC (.ty "bool")) tNil))))))
theorem ws_is_whole {K : Fg} {vs : List V} {D : DL} {O : OL} {P : V → DL → OL → Prop} (h : R_is_whole K vs D O P) : WS K (t_is_whole K) (start n_is_whole vs) D O (Pf K P) := by
  obtain ⟨v, rfl, hv, k⟩ := h
  unfold t_is_whole
  unfold vW at k
  repeat (walk_at "w")
  refine thg_int hv ?_
  repeat (walk_at "w")
  refine if_b (fun h1 => ?_) (fun h1 => ?_)
  · rw [h1, Bool.true_and] at k
    repeat (walk_at "w")
    refine thg_bool hv ?_
    repeat (walk_at "w")
    exact Wk.of k
  · rw [h1, Bool.false_and] at k
    exact Wk.of k
theorem ok_is_whole (T : Tx K mg) : OkF P w K mg base 2 "is_whole" ["thing"] (R_is_whole K) := by
  obtain ⟨fd, F⟩ := T.d_is_whole
  refine ⟨fd, F.ok sc_is_whole (fun vs H Q E h => h.1) (fun cdv A outer s H vs Q E hr h => ?_), FunD.bindsN F (fun _ _ _ _ _ _ us hl => match us, hl with | [_], _ => rfl), F.kp, T.g_is_whole, fun_lk F⟩
  have hu := hu_of hr
  exact ⟨t_is_whole K, PSs.nox
    (pss_one (ps_ret (pe_and (pe_callB call_isi (by rfl) T.f_isinstance (by decide +kernel) (pa_cons (pv 0) (pa_cons (pe_bltn (v := .ty "int") (by rfl) T.f_int (by decide +kernel) rfl) pa_nil))) (pe_one (pe_not (pe_callB call_isi (by rfl) T.f_isinstance (by decide +kernel) (pa_cons (pv 0) (pa_cons (pe_bltn (v := .ty "bool") (by rfl) T.f_bool (by decide +kernel) rfl) pa_nil)))))))),
    body_of n_is_whole (fun D O P hR => ws_is_whole hR) h⟩
/-! need_prime -/
def R_need_prime (K : Fg) : AW := fun vs D O P => ∃ p : Int, vs = [.int p] ∧ p ∈ prs ∧ P .non D O
def t_need_prime (K : Fg) : TS :=
  (tIfS (tOr (tNot (tTru K (tCall (spW K 1 (R_is_whole K)) [] E0 (tCons (tVar 0) tNil)))) (tTest (tOp (rIn K true) (tVar 0) (tC (.ref (He.ga K "PRIMES")))))) tNever tNext)
theorem ws_need_prime {K : Fg} (C : Cn K) {vs : List V} {D : DL} {O : OL} {P : V → DL → OL → Prop} (h : R_need_prime K vs D O P) : WS K (t_need_prime K) (start n_need_prime vs) D O (Pf K P) := by
  obtain ⟨p, rfl, hp, k⟩ := h
  unfold t_need_prime
  refine ws_if ?_
  repeat (walk_at "w")
  refine ⟨_, _, Imp.refl, rfl, _, rfl, .inl ⟨_, rfl⟩, ?_⟩
  repeat (walk_at "w")
  refine if_no rfl ?_
  repeat (walk_at "w")
  refine wr_inT (tup_has (C.tp (fun K => He.ga K "PRIMES", prs) (.head _))) ?_
  repeat (walk_at "w")
  show if (!decide (p ∈ prs)) = true then _ else _
  refine if_nne hp ?_
  exact ws_next (Wk.of k)
theorem ok_need_prime (T : Tx K mg) : OkF P w K mg base 3 "need_prime" ["prime"] (R_need_prime K) := by
  obtain ⟨d_is_whole, G_is_whole, b_is_whole, k_is_whole, m_is_whole, _⟩ := ok_is_whole (P := P) (w := w) (base := base) T
  obtain ⟨fd, F⟩ := T.d_need_prime
  refine ⟨fd, F.ok sc_need_prime (fun vs H Q E h => h.1) (fun cdv A outer s H vs Q E hr h => ?_), FunD.bindsN F (fun _ _ _ _ _ _ us hl => match us, hl with | [_], _ => rfl), F.kp, T.g_need_prime, fun_lk F⟩
  have hu := hu_of hr
  exact ⟨t_need_prime K, PSs.nox
    (pss_one (ps_if (PW.pt (pw_or (pt_not (pt_truth (pe_call G_is_whole (hr.mono (by decide)) (by rfl) m_is_whole k_is_whole b_is_whole .nil pass0 (pa_cons (pv 0) pa_nil)) (by intro _; rfl))) (pw_or1 (pt_cmpR op_notIn_seq (pv 0) (pe_glob (by rfl) T.g_PRIMES rfl) (by first | exact nomark _ | rfl))))) (pss_one ps_never) pss_nil)),
    body_of n_need_prime (fun D O P hR => ws_need_prime T.cn hR) h⟩
/-! signs_by -/
def R_signs_by (K : Fg) : AW := fun vs D O P => ∃ n b L : Nat, vs = [.int n, .int b] ∧ 2 ≤ b ∧ b ≤ 97 ∧ n < 2 ^ L ∧ L ≤ 100000 ∧ ∀ p, P (.ref p) D (lstE K p ((bs b n).reverse.map .int) :: O)
def t_signs_by (K : Fg) : TS :=
  (tSeq (tAsg (tLst tNil) (gName 2))
  (tSeq (tWhile (tTest (tOp rGT (tVar 0) (tC (.int 0)))) (tSeq (tAsg (tCB rDIVMOD (tCons (tVar 0) (tCons (tVar 1) tNil))) (gTup K 2 (gCons (gName 0) (gCons (gName 3) gNil))))
  (tDrop (tBM K "list" rAppend (tVar 2) (tCons (tVar 3) tNil)))))
  (tRet (tVar 2))))
theorem ws_signs_by {K : Fg} {vs : List V} {D : DL} {O : OL} {P : V → DL → OL → Prop} (h : R_signs_by K vs D O P) : WS K (t_signs_by K) (start n_signs_by vs) D O (Pf K P) := by
  obtain ⟨n, b, L, rfl, hb, hb2, hL, hL2, k⟩ := h
  unfold t_signs_by
  refine ws_seq (ws_set (we_lstO (wa_nil ⟨by decide, _, hasl_nil, fun p => ?_⟩)))
  refine ws_seq (ws_while (fun m σ' D' O' => ∃ (fs : List Int) (u : Option V), σ' = [some (.int m), some (.int b), some (.ref p), u] ∧ D' = D ∧ O' = lstE K p (fs.map .int) :: O ∧ bs b n = bs b m ++ fs.reverse) n ⟨[], none, rfl, rfl, rfl, by simp⟩ ?_)
  rintro m σ' D' O' ⟨fs, u, rfl, rfl, rfl, hd⟩
  repeat (walk_at "w")
  refine if_dec (fun h => ?_) (fun h => ?_)
  · have e_len : fs.length < 1000000 := by
      have := bs_len hb hL
      rw [hd, List.length_append, List.length_reverse] at this
      omega
    repeat (walk_at "w")
    refine wc_divmod ⟨by omega, by omega⟩ (fun q => ?_)
    repeat (walk_at "w")
    have hm : m ≠ 0 := by omega
    refine ⟨m / b, dlt hb hm, D', _, ⟨fs ++ [((m % b : Nat) : Int)], _, rfl, rfl, rfl, ?_⟩, ?_⟩
    · rw [hd, bs_pos hb hm, List.reverse_append, List.append_assoc]
      rfl
    · rw [List.map_append]
      walk_at "imp"
  · have hm : m = 0 := by omega
    subst hm
    rw [bs_zero, List.nil_append] at hd
    repeat (walk_at "w")
    rw [hd, List.reverse_reverse] at k
    exact Wk.of (k p)
theorem ok_signs_by (T : Tx K mg) : OkF P w K mg base 2 "signs_by" ["number", "base"] (R_signs_by K) := by
  obtain ⟨fd, F⟩ := T.d_signs_by
  refine ⟨fd, F.ok sc_signs_by (fun vs H Q E h => h.1) (fun cdv A outer s H vs Q E hr h => ?_), FunD.bindsN F (fun _ _ _ _ _ _ us hl => match us, hl with | [_, _], _ => rfl), F.kp, T.g_signs_by, fun_lk F⟩
  have hu := hu_of hr
  exact ⟨t_signs_by K, PSs.nox
    (pss_cons (ps_set (i := 2) sc_signs_by.nd rfl (by first | exact Or.inl rfl | exact Or.inr rfl) (pe_lst pa_nil))
      (pss_cons (ps_while PassesOwn.never (pt_cmpR op_gt (pv 0) pe_int (by first | exact nomark _ | rfl)) (pss_cons (ps_asg (pe_callB call_divmod (by rfl) T.f_divmod (by decide +kernel) (pa_cons (pv 0) (pa_cons (pv 1) pa_nil))) (pg_tup rfl (pgs_cons (pg_name (i := 0) sc_signs_by.nd rfl (by first | exact Or.inl rfl | exact Or.inr rfl)) (pgs_cons (pg_name (i := 3) sc_signs_by.nd rfl (by first | exact Or.inl rfl | exact Or.inr rfl)) pgs_nil))))
      (pss_one (ps_expr (pe_bm PySem.F.plainAttrs_list PySem.F.slot_list_append PySem.F.type_list_append mt_append (pv 2) (pa_cons (pv 3) pa_nil))))))
      (pss_one (ps_ret (pv 2))))),
    body_of n_signs_by (fun D O P hR => ws_signs_by hR) h⟩
/-! is_taken -/
def R_is_taken (K : Fg) : AW := fun vs D O P => ∃ (p n L : Nat), vs = [.int p, .int n] ∧ (p : Int) ∈ prs ∧ n < 2 ^ L ∧ L ≤ 100000 ∧ P (.bl (tk p n)) D O
def t_is_taken (K : Fg) : TS :=
  (tSeq (tDrop (tCall (spW K 1 (R_need_prime K)) [] E0 (tCons (tVar 0) tNil)))
  (tRet (tOp (rIn K true) (tOp rSUB (tVar 0) (tC (.int 1))) (tCall (spW K 2 (R_signs_by K)) [] E0 (tCons (tVar 1) (tCons (tVar 0) tNil))))))
theorem ws_is_taken {K : Fg} {vs : List V} {D : DL} {O : OL} {P : V → DL → OL → Prop} (h : R_is_taken K vs D O P) : WS K (t_is_taken K) (start n_is_taken vs) D O (Pf K P) := by
  obtain ⟨p, n, L, rfl, hp, hL, hL2, k⟩ := h
  obtain ⟨h3, h97⟩ := prs_ge hp
  unfold t_is_taken
  repeat (walk_at "w")
  refine ⟨_, _, Imp.refl, rfl, _, rfl, hp, ?_⟩
  repeat (walk_at "w")
  refine ⟨_, _, Imp.refl, rfl, n, p, L, rfl, by omega, by omega, hL, hL2, fun q => ?_⟩
  refine wr_inL (by walk_at "rdl") ?_
  rw [tk_bs h3] at k
  refine ⟨D, O, ?_, by walk_at "imp"⟩
  show P (.bl (!decide (((p : Int) - 1) ∈ (bs p n).reverse))) D O
  rw [decide_eq_decide.mpr (List.mem_reverse (x := (p : Int) - 1) (as := bs p n))]
  exact k
theorem ok_is_taken (T : Tx K mg) : OkF P w K mg base 4 "is_taken" ["prime", "number"] (R_is_taken K) := by
  obtain ⟨d_need_prime, G_need_prime, b_need_prime, k_need_prime, m_need_prime, _⟩ := ok_need_prime (P := P) (w := w) (base := base) T
  obtain ⟨d_signs_by, G_signs_by, b_signs_by, k_signs_by, m_signs_by, _⟩ := ok_signs_by (P := P) (w := w) (base := base) T
  obtain ⟨fd, F⟩ := T.d_is_taken
  refine ⟨fd, F.ok sc_is_taken (fun vs H Q E h => h.1) (fun cdv A outer s H vs Q E hr h => ?_), FunD.bindsN F (fun _ _ _ _ _ _ us hl => match us, hl with | [_, _], _ => rfl), F.kp, T.g_is_taken, fun_lk F⟩
  have hu := hu_of hr
  exact ⟨t_is_taken K, PSs.nox
    (pss_cons (ps_expr (pe_call G_need_prime (hr.mono (by decide)) (by rfl) m_need_prime k_need_prime b_need_prime .nil pass0 (pa_cons (pv 0) pa_nil)))
      (pss_one (ps_ret (pe_cmpR op_notIn_seq (pe_op oSUB (pv 0) pe_int) (pe_call G_signs_by (hr.mono (by decide)) (by rfl) m_signs_by k_signs_by b_signs_by .nil pass0 (pa_cons (pv 1) (pa_cons (pv 0) pa_nil))) (by first | exact nomark _ | rfl))))),
    body_of n_is_taken (fun D O P hR => ws_is_taken hR) h⟩
/-! read_by -/
def R_read_by (K : Fg) : AW := fun vs D O P => ∃ (a : Addr) (ns : List Int) (b : Nat), vs = [.ref a, .int b] ∧ Has K D (.ref a) (dI ns) ∧ (∀ s ∈ ns, 0 ≤ s ∧ s < b) ∧ b ≤ 97 ∧ ns.length ≤ 10000 ∧ P (.int (rdS b ns.reverse)) D O
def t_read_by (K : Fg) : TS :=
  (tSeq (tAsg (tC (.int 0)) (gName 2))
  (tSeq (tFor (iRev K (tCons (tVar 0) tNil)) (gName 3) (tAsg (tOp (rADD K) (tOp rMUL (tVar 2) (tVar 1)) (tVar 3)) (gName 2)))
  (tRet (tVar 2))))
theorem ws_read_by {K : Fg} {vs : List V} {D : DL} {O : OL} {P : V → DL → OL → Prop} (h : R_read_by K vs D O P) : WS K (t_read_by K) (start n_read_by vs) D O (Pf K P) := by
  obtain ⟨a, ns, b, rfl, hv, hs, hb, hl, k⟩ := h
  unfold t_read_by
  repeat (walk_at "w")
  refine ws_seq (ws_forW ?_)
  repeat (walk_at "w")
  refine ⟨fun i σ' D' O' => ∃ u : Option V, σ' = [some (.ref a), some (.int b), some (.int (rdS b (ns.reverse.take i))), u] ∧ D' = D ∧ O' = O, Nx.of ⟨none, rfl, rfl, rfl⟩, ?_, ?_, ?_⟩
  · rintro i σ' D' O' ⟨u, rfl, rfl, rfl⟩
    exact hv
  · rintro i hi σ' D' O' ⟨u, rfl, rfl, rfl⟩
    repeat (walk_at "w")
    have h1 := rdS_lt (show b ≤ 128 by omega) _ (ns.reverse.take i) rfl fun s h => hs s (List.mem_reverse.mp (List.mem_of_mem_take h))
    have h2 : (ns.reverse.take i).length ≤ 10000 := by rw [List.length_take, List.length_reverse]; omega
    refine wr_mul (cmulx_of (a := 7 * (ns.reverse.take i).length + 1) (b := 64) ?_ (by omega) (by omega) (by decide) (by omega)) ?_
    · rw [Nat.pow_succ]
      omega
    repeat (walk_at "w")
    refine ⟨_, _, ⟨some (.int ns.reverse[i]), ?_, rfl, rfl⟩, Imp.refl⟩
    rw [take_snoc hi, rdS_app]
    rfl
  · rintro σ' D' O' ⟨u, rfl, rfl, rfl⟩
    repeat (walk_at "w")
    rw [List.take_length]
    exact Wk.of k
theorem ok_read_by (T : Tx K mg) : OkF P w K mg base 2 "read_by" ["signs", "base"] (R_read_by K) := by
  obtain ⟨fd, F⟩ := T.d_read_by
  refine ⟨fd, F.ok sc_read_by (fun vs H Q E h => h.1) (fun cdv A outer s H vs Q E hr h => ?_), FunD.bindsN F (fun _ _ _ _ _ _ us hl => match us, hl with | [_, _], _ => rfl), F.kp, T.g_read_by, fun_lk F⟩
  have hu := hu_of hr
  exact ⟨t_read_by K, PSs.nox
    (pss_cons (ps_set (i := 2) sc_read_by.nd rfl (by first | exact Or.inl rfl | exact Or.inr rfl) pe_int)
      (pss_cons (ps_for PassesOwn.never rfl (pi_reversed (by rfl) T.f_reversed (pa_cons (pv 0) pa_nil)) (pg_name (i := 3) sc_read_by.nd rfl (by first | exact Or.inl rfl | exact Or.inr rfl)) (pss_one (ps_set (i := 2) sc_read_by.nd rfl (by first | exact Or.inl rfl | exact Or.inr rfl) (pe_op oADD (pe_op oMUL (pv 2) (pv 1)) (pv 3)))))
      (pss_one (ps_ret (pv 2))))),
    body_of n_read_by (fun D O P hR => ws_read_by hR) h⟩
/-! long_nth -/
def R_long_nth (K : Fg) : AW := fun vs D O P => ∃ (p a L : Nat), vs = [.int p, .int a] ∧ (p : Int) ∈ prs ∧ a < 2 ^ L ∧ L ≤ 10000 ∧ P (.int (lnth p a)) D O
def t_long_nth (K : Fg) : TS :=
  (tSeq (tDrop (tCall (spW K 1 (R_need_prime K)) [] E0 (tCons (tVar 0) tNil)))
  (tRet (tCall (spW K 2 (R_read_by K)) [] E0 (tCons (tCall (spW K 2 (R_signs_by K)) [] E0 (tCons (tVar 1) (tCons (tOp rSUB (tVar 0) (tC (.int 1))) tNil))) (tCons (tVar 0) tNil)))))
theorem ws_long_nth {K : Fg} {vs : List V} {D : DL} {O : OL} {P : V → DL → OL → Prop} (h : R_long_nth K vs D O P) : WS K (t_long_nth K) (start n_long_nth vs) D O (Pf K P) := by
  obtain ⟨p, a, L, rfl, hp, hL, hL2, k⟩ := h
  obtain ⟨h3, h97⟩ := prs_ge hp
  unfold t_long_nth
  repeat (walk_at "w")
  refine ⟨_, _, Imp.refl, rfl, _, rfl, hp, ?_⟩
  repeat (walk_at "w")
  refine ⟨_, _, Imp.refl, rfl, a, p - 1, L, ?_, by omega, by omega, hL, by omega, fun q => ?_⟩
  · rw [Int.ofNat_sub (by omega)]
    rfl
  repeat (walk_at "w")
  refine ⟨_, _, imp_frz, rfl, q, (bs (p - 1) a).reverse, p, rfl, by walk_at "has", fun s hs => ?_, h97, ?_, ?_⟩
  · have := bs_mem (by omega) s (List.mem_reverse.mp hs)
    omega
  · rw [List.length_reverse]
    have := bs_len (show 2 ≤ p - 1 by omega) hL
    omega
  rw [List.reverse_reverse, rdS_bs h3]
  exact ⟨_, _, k, by walk_at "imp"⟩
theorem ok_long_nth (T : Tx K mg) : OkF P w K mg base 4 "long_nth" ["prime", "place"] (R_long_nth K) := by
  obtain ⟨d_need_prime, G_need_prime, b_need_prime, k_need_prime, m_need_prime, _⟩ := ok_need_prime (P := P) (w := w) (base := base) T
  obtain ⟨d_read_by, G_read_by, b_read_by, k_read_by, m_read_by, _⟩ := ok_read_by (P := P) (w := w) (base := base) T
  obtain ⟨d_signs_by, G_signs_by, b_signs_by, k_signs_by, m_signs_by, _⟩ := ok_signs_by (P := P) (w := w) (base := base) T
  obtain ⟨fd, F⟩ := T.d_long_nth
  refine ⟨fd, F.ok sc_long_nth (fun vs H Q E h => h.1) (fun cdv A outer s H vs Q E hr h => ?_), FunD.bindsN F (fun _ _ _ _ _ _ us hl => match us, hl with | [_, _], _ => rfl), F.kp, T.g_long_nth, fun_lk F⟩
  have hu := hu_of hr
  exact ⟨t_long_nth K, PSs.nox
    (pss_cons (ps_expr (pe_call G_need_prime (hr.mono (by decide)) (by rfl) m_need_prime k_need_prime b_need_prime .nil pass0 (pa_cons (pv 0) pa_nil)))
      (pss_one (ps_ret (pe_call G_read_by (hr.mono (by decide)) (by rfl) m_read_by k_read_by b_read_by .nil pass0 (pa_cons (pe_call G_signs_by (hr.mono (by decide)) (by rfl) m_signs_by k_signs_by b_signs_by .nil pass0 (pa_cons (pv 1) (pa_cons (pe_op oSUB (pv 0) pe_int) pa_nil))) (pa_cons (pv 0) pa_nil)))))),
    body_of n_long_nth (fun D O P hR => ws_long_nth hR) h⟩
/-! long_count -/
def R_long_count (K : Fg) : AW := fun vs D O P => ∃ (p n L : Nat), vs = [.int p, .int n] ∧ (p : Int) ∈ prs ∧ n < 2 ^ L ∧ L ≤ 100000 ∧ P (.int (cnt p n)) D O
def t_long_count (K : Fg) : TS :=
  (tSeq (tDrop (tCall (spW K 1 (R_need_prime K)) [] E0 (tCons (tVar 0) tNil)))
  (tSeq (tAsg (tTup (tCons (tC (.int 0)) (tCons (tC (.bl true)) tNil))) (gTup K 2 (gCons (gName 2) (gCons (gName 3) gNil))))
  (tSeq (tFor (iRev K (tCons (tCall (spW K 2 (R_signs_by K)) [] E0 (tCons (tVar 1) (tCons (tVar 0) tNil))) tNil)) (gName 4) (tSeq (tAsg (tOp (rADD K) (tOp rMUL (tVar 2) (tOp rSUB (tVar 0) (tC (.int 1)))) (tIf (tTru K (tVar 3)) (tVar 4) (tC (.int 0)))) (gName 2))
  (tAsg (tAndV (tVar 3) (tOp (rNE K) (tVar 4) (tOp rSUB (tVar 0) (tC (.int 1))))) (gName 3))))
  (tRet (tVar 2)))))
theorem ws_long_count {K : Fg} {vs : List V} {D : DL} {O : OL} {P : V → DL → OL → Prop} (h : R_long_count K vs D O P) : WS K (t_long_count K) (start n_long_count vs) D O (Pf K P) := by
  obtain ⟨p, n, L, rfl, hp, hL, hL2, k⟩ := h
  obtain ⟨h3, h97⟩ := prs_ge hp
  unfold t_long_count
  repeat (walk_at "w")
  refine ⟨_, _, Imp.refl, rfl, _, rfl, hp, ?_⟩
  repeat (walk_at "w")
  refine ws_imp (D' := D) (by walk_at "imp") ?_
  refine ws_seq (ws_forW ?_)
  repeat (walk_at "w")
  refine ⟨_, _, Imp.refl, rfl, n, p, L, rfl, by omega, by omega, hL, hL2, fun q => ?_⟩
  refine wa_frz ?_
  repeat (walk_at "w")
  rw [List.reverse_reverse]
  refine ⟨fun i σ' D' O' => ∃ u : Option V, σ' = [some (.int p), some (.int n), some (.int (cfS p ((bs p n).take i)).1), some (.bl (cfS p ((bs p n).take i)).2), u] ∧ D' = (.ref q, dI (bs p n).reverse) :: D ∧ O' = O, Nx.of ⟨none, rfl, rfl, rfl⟩, ?_, ?_, ?_⟩
  · rintro i σ' D' O' ⟨u, rfl, rfl, rfl⟩
    walk_at "has"
  · rintro i hi σ' D' O' ⟨u, rfl, rfl, rfl⟩
    have hb : (cfS p ((bs p n).take i)).1.natAbs < 2 ^ L := by
      obtain ⟨m, h1, h2⟩ := bs_take (show 2 ≤ p by omega) n i
      rw [h2, cfS_bs h3]
      have := cnt_le h3 m
      show ((cnt p m : Nat) : Int).natAbs < 2 ^ L
      omega
    have key := cfS_app (p := p) ((bs p n).take i) (bs p n)[i]
    rw [← take_snoc hi] at key
    generalize cfS p ((bs p n).take i) = z at *
    obtain ⟨f, c⟩ := z
    repeat (walk_at "w")
    refine wr_mul (cmulx_of (a := L + 1) (b := 64) ?_ (by omega) (by omega) (by decide) (by omega)) ?_
    · rw [Nat.pow_succ]
      show f.natAbs < _
      have : f.natAbs < 2 ^ L := hb
      omega
    repeat (walk_at "w")
    refine if_b (fun hc => ?_) (fun hc => ?_)
    · have hc : c = true := hc
      subst hc
      repeat (walk_at "w")
      exact ⟨_, _, ⟨some (.int (bs p n)[i]), by rw [key]; rfl, rfl, rfl⟩, Imp.refl⟩
    · have hc : c = false := hc
      subst hc
      repeat (walk_at "w")
      exact ⟨_, _, ⟨some (.int (bs p n)[i]), by rw [key]; rfl, rfl, rfl⟩, Imp.refl⟩
  · rintro σ' D' O' ⟨u, rfl, rfl, rfl⟩
    repeat (walk_at "w")
    rw [List.take_length, cfS_bs h3]
    exact ⟨_, _, k, by walk_at "imp"⟩

theorem ok_long_count (T : Tx K mg) : OkF P w K mg base 4 "long_count" ["prime", "below"] (R_long_count K) := by
  obtain ⟨d_need_prime, G_need_prime, b_need_prime, k_need_prime, m_need_prime, _⟩ := ok_need_prime (P := P) (w := w) (base := base) T
  obtain ⟨d_signs_by, G_signs_by, b_signs_by, k_signs_by, m_signs_by, _⟩ := ok_signs_by (P := P) (w := w) (base := base) T
  obtain ⟨fd, F⟩ := T.d_long_count
  refine ⟨fd, F.ok sc_long_count (fun vs H Q E h => h.1) (fun cdv A outer s H vs Q E hr h => ?_), FunD.bindsN F (fun _ _ _ _ _ _ us hl => match us, hl with | [_, _], _ => rfl), F.kp, T.g_long_count, fun_lk F⟩
  have hu := hu_of hr
  exact ⟨t_long_count K, PSs.nox
    (pss_cons (ps_expr (pe_call G_need_prime (hr.mono (by decide)) (by rfl) m_need_prime k_need_prime b_need_prime .nil pass0 (pa_cons (pv 0) pa_nil)))
      (pss_cons (ps_asg (pe_tup (pa_cons pe_int (pa_cons pe_bl pa_nil))) (pg_tup rfl (pgs_cons (pg_name (i := 2) sc_long_count.nd rfl (by first | exact Or.inl rfl | exact Or.inr rfl)) (pgs_cons (pg_name (i := 3) sc_long_count.nd rfl (by first | exact Or.inl rfl | exact Or.inr rfl)) pgs_nil))))
      (pss_cons (ps_for PassesOwn.never rfl (pi_reversed (by rfl) T.f_reversed (pa_cons (pe_call G_signs_by (hr.mono (by decide)) (by rfl) m_signs_by k_signs_by b_signs_by .nil pass0 (pa_cons (pv 1) (pa_cons (pv 0) pa_nil))) pa_nil)) (pg_name (i := 4) sc_long_count.nd rfl (by first | exact Or.inl rfl | exact Or.inr rfl)) (pss_cons (ps_set (i := 2) sc_long_count.nd rfl (by first | exact Or.inl rfl | exact Or.inr rfl) (pe_op oADD (pe_op oMUL (pv 2) (pe_op oSUB (pv 0) pe_int)) (pe_ifExp (pt_truth (pv 3) (by intro _; rfl)) (pv 4) pe_int)))
      (pss_one (ps_set (i := 3) sc_long_count.nd rfl (by first | exact Or.inl rfl | exact Or.inr rfl) (pe_and (pv 3) (pe_one (pe_cmpR (oNE hr.units) (pv 4) (pe_op oSUB (pv 0) pe_int) (by first | exact nomark _ | rfl))))))))
      (pss_one (ps_ret (pv 2)))))),
    body_of n_long_count (fun D O P hR => ws_long_count hR) h⟩
/-! long_step -/
def R_long_step (K : Fg) : AW := fun vs D O P => ∃ (p n L : Nat), vs = [.int p, .int n] ∧ (p : Int) ∈ prs ∧ n < 2 ^ L ∧ L ≤ 10000 ∧ P (if lstep p n = 0 then .non else .int (lstep p n)) D O
def t_long_step (K : Fg) : TS :=
  (tSeq (tDrop (tCall (spW K 1 (R_need_prime K)) [] E0 (tCons (tVar 0) tNil)))
  (tSeq (tAsg (tCall (spW K 2 (R_read_by K)) [] E0 (tCons (tLc (iOr (iList K (tCall (spW K 2 (R_signs_by K)) [] E0 (tCons (tVar 1) (tCons (tVar 0) tNil)))) (iTup K (tCall (spW K 2 (R_signs_by K)) [] E0 (tCons (tVar 1) (tCons (tVar 0) tNil))))) (gName 3) tYes (tCB rINT (tCons (tOp (rEQ K) (tVar 3) (tOp rSUB (tVar 0) (tC (.int 1)))) tNil)) [3]) (tCons (tVar 0) tNil))) (gName 2))
  (tRet (tIf (tTest (tOp (rEQ K) (tVar 2) (tC (.int 0)))) (tC .non) (tVar 2)))))
theorem ws_long_step {K : Fg} {vs : List V} {D : DL} {O : OL} {P : V → DL → OL → Prop} (h : R_long_step K vs D O P) : WS K (t_long_step K) (start n_long_step vs) D O (Pf K P) := by
  obtain ⟨p, n, L, rfl, hp, hL, hL2, k⟩ := h
  obtain ⟨h3, h97⟩ := prs_ge hp
  unfold t_long_step
  repeat (walk_at "w")
  refine ⟨_, _, Imp.refl, rfl, _, rfl, hp, ?_⟩
  repeat (walk_at "w")
  refine we_lcY (fun s => .int (if s = (p : Int) - 1 then 1 else 0)) (((bs p n).reverse.map fun s => if s = (p : Int) - 1 then (1 : Int) else 0).map .int) ?_
  refine wi_listF ?_
  repeat (walk_at "w")
  refine ⟨_, _, Imp.refl, rfl, n, p, L, rfl, by omega, by omega, hL, by omega, fun q => ⟨q, (bs p n).reverse, _, _, rfl, imp_frz, by walk_at "has", by walk_at "has", ?_, fun s hs r acc => ?_, ?_, fun r => ?_⟩⟩
  · have := bs_len (show 2 ≤ p by omega) hL
    rw [List.length_reverse]
    omega
  · repeat (walk_at "w")
    refine ⟨rfl, ?_⟩
    repeat (walk_at "w")
    refine ⟨fun _ => ?_, Imp.refl⟩
    have e : (if decide (s = (p : Int) - 1) = true then (1 : Int) else 0) = if s = (p : Int) - 1 then 1 else 0 := by
      by_cases h : s = (p : Int) - 1 <;> simp [h]
    rw [e]
    exact has_int
  · rw [List.map_map]
    rfl
  repeat (walk_at "w")
  refine ⟨_, _, Imp.refl, rfl, r, _, p, rfl, by walk_at "has", fun s hs => ?_, h97, ?_, ?_⟩
  · obtain ⟨x, _, rfl⟩ := List.mem_map.mp hs
    split <;> omega
  · have := bs_len (show 2 ≤ p by omega) hL
    rw [List.length_map, List.length_reverse]
    omega
  rw [← List.map_reverse, List.reverse_reverse, rdS_step h3]
  repeat (walk_at "w")
  refine if_dec (fun h => ?_) (fun h => ?_)
  · repeat (walk_at "w")
    rw [if_pos (by omega)] at k
    exact ⟨_, _, k, by walk_at "imp"⟩
  · repeat (walk_at "w")
    rw [if_neg (by omega)] at k
    exact ⟨_, _, k, by walk_at "imp"⟩
theorem ok_long_step (T : Tx K mg) : OkF P w K mg base 4 "long_step" ["prime", "number"] (R_long_step K) := by
  obtain ⟨d_need_prime, G_need_prime, b_need_prime, k_need_prime, m_need_prime, _⟩ := ok_need_prime (P := P) (w := w) (base := base) T
  obtain ⟨d_read_by, G_read_by, b_read_by, k_read_by, m_read_by, _⟩ := ok_read_by (P := P) (w := w) (base := base) T
  obtain ⟨d_signs_by, G_signs_by, b_signs_by, k_signs_by, m_signs_by, _⟩ := ok_signs_by (P := P) (w := w) (base := base) T
  obtain ⟨fd, F⟩ := T.d_long_step
  refine ⟨fd, F.ok sc_long_step (fun vs H Q E h => h.1) (fun cdv A outer s H vs Q E hr h => ?_), FunD.bindsN F (fun _ _ _ _ _ _ us hl => match us, hl with | [_, _], _ => rfl), F.kp, T.g_long_step, fun_lk F⟩
  have hu := hu_of hr
  exact ⟨t_long_step K, PSs.nox
    (pss_cons (ps_expr (pe_call G_need_prime (hr.mono (by decide)) (by rfl) m_need_prime k_need_prime b_need_prime .nil pass0 (pa_cons (pv 0) pa_nil)))
      (pss_cons (ps_set (i := 2) sc_long_step.nd rfl (by first | exact Or.inl rfl | exact Or.inr rfl) (pe_call G_read_by (hr.mono (by decide)) (by rfl) m_read_by k_read_by b_read_by .nil pass0 (pa_cons (pe_lc (own := [("sign", 3)]) (by rfl) sc_long_step.nd (pi_or2 (pi_list (pe_call G_signs_by (hr.mono (by decide)) (by rfl) m_signs_by k_signs_by b_signs_by .nil pass0 (pa_cons (pv 1) (pa_cons (pv 0) pa_nil)))) (pi_tup (pe_call G_signs_by (hr.mono (by decide)) (by rfl) m_signs_by k_signs_by b_signs_by .nil pass0 (pa_cons (pv 1) (pa_cons (pv 0) pa_nil))))) (blkOk_by (own := [("sign", 3)]) (N := n_long_step) (sc := defScope s_long_step) (by decide +kernel)) (fun _ _ _ _ _ => (pg_name (i := 3) sc_long_step.nd rfl (by first | exact Or.inl rfl | exact Or.inr rfl))) (fun _ _ _ _ _ => pts_nil) (fun _ _ _ _ _ => (pe_callTy call_int1 (by rfl) T.f_int (by decide +kernel) (pa_cons (pe_cmpR (oEQ hr.units) (pv 3) (pe_op oSUB (pv 0) pe_int) (by first | exact nomark _ | rfl)) pa_nil)))) (pa_cons (pv 0) pa_nil))))
      (pss_one (ps_ret (pe_ifExp (pt_cmpR (oEQ hr.units) (pv 2) pe_int (by first | exact nomark _ | rfl)) pe_non (pv 2)))))),
    body_of n_long_step (fun D O P hR => ws_long_step hR) h⟩
/-! is_long_step -/
def R_ilN (K : Fg) : AW := fun vs D O P => ∃ (p n s L : Nat), vs = [.int p, .int n, .int s] ∧ (p : Int) ∈ prs ∧ n < 2 ^ L ∧ s < 2 ^ L ∧ 0 < L ∧ L ≤ 10000 ∧ P (.bl (ilS p n s)) D O
def R_is_long_step (K : Fg) : AW := fun vs D O P => ∃ (p n L : Nat) (v : V), vs = [.int p, .int n, v] ∧ (p : Int) ∈ prs ∧ n < 2 ^ L ∧ 0 < L ∧ L ≤ 10000 ∧ Thg K D v ∧ (∀ s, v = .int s → s.natAbs < 2 ^ L) ∧ P (.bl (ilV p n v)) D O
def t_is_long_step (K : Fg) : TS :=
  (tSeq (tDrop (tCall (spW K 1 (R_need_prime K)) [] E0 (tCons (tVar 0) tNil)))
  (tSeq (tIfS (tOr (tNot (tTru K (tCall (spW K 1 (R_is_whole K)) [] E0 (tCons (tVar 2) tNil)))) (tOr (tTest (tOp rLT (tVar 2) (tC (.int 1)))) (tTest (tOp rGT (tOp rMUL (tOp rSUB (tVar 0) (tC (.int 1))) (tVar 2)) (tVar 1))))) (tRet (tC (.bl false))) tNext)
  (tRet (tCB (L2.rAll K) (tCons (tLc (iRng2 (tCons (tC (.int 1)) (tCons (tVar 0) tNil))) (gName 3) tYes (tCall (spW K 2 (R_is_taken K)) [] E0 (tCons (tVar 0) (tCons (tOp rSUB (tVar 1) (tOp rMUL (tVar 3) (tVar 2))) tNil))) [3]) tNil)))))
theorem ws_ilN {K : Fg} {vs : List V} {D : DL} {O : OL} {P : V → DL → OL → Prop} (h : R_ilN K vs D O P) : WS K (t_is_long_step K) (start n_is_long_step vs) D O (Pf K P) := by
  obtain ⟨p, n, s, L, rfl, hp, hL, hs, h0, hL2, k⟩ := h
  obtain ⟨h3, h97⟩ := prs_ge hp
  have hp1 : (p : Int) - 1 = ((p - 1 : Nat) : Int) := by omega
  unfold t_is_long_step
  repeat (walk_at "w")
  refine ⟨_, _, Imp.refl, rfl, _, rfl, hp, ?_⟩
  repeat (walk_at "w")
  by_cases c1 : 1 ≤ s ∧ (p - 1) * s ≤ n
  · have e1 : ((p - 1 : Nat) : Int) * (s : Int) ≤ n := by
      have := c1.2
      rw [← Int.natCast_mul]
      omega
    refine ws_seq (ws_skip ?t ?_)
    case t =>
      repeat (walk_at "w")
      refine ⟨_, _, Imp.refl, rfl, _, rfl, .inl ⟨_, rfl⟩, ?_⟩
      repeat (walk_at "w")
      refine if_no rfl ?_
      repeat (walk_at "w")
      refine if_ne (by omega) ?_
      repeat (walk_at "w")
      refine wr_mul (cmulx_of (a := 64) (b := L) (by omega) (by omega) (by decide) h0 (by omega)) ?_
      repeat (walk_at "w")
      rw [hp1]
      exact ⟨decide_eq_false (by omega), Imp.refl⟩
    repeat (walk_at "w")
    refine we_lcY (fun x => .bool (tk p (n - x.toNat * s))) (((rInts 1 (p - 1)).map fun k => tk p (n - k.toNat * s)).map .bool) ?_
    repeat (walk_at "w")
    refine ⟨by omega, trivial, by rw [rInts_len]; omega, fun x hx q acc => ?_, ?_, fun q => ?_⟩
    · have hx2 := rInts_mem.mp hx
      obtain ⟨y, rfl⟩ := Int.eq_ofNat_of_zero_le (show 0 ≤ x by omega)
      have hy : y * s ≤ n := Nat.le_trans (Nat.mul_le_mul_right _ (by omega)) c1.2
      repeat (walk_at "w")
      refine ⟨rfl, ?_⟩
      repeat (walk_at "w")
      refine wr_mul (cmulx_of (a := 64) (b := L) (by omega) (by omega) (by decide) h0 (by omega)) ?_
      repeat (walk_at "w")
      refine ⟨_, _, Imp.refl, rfl, p, n - y * s, L, ?_, hp, by omega, by omega, fun _ => has_bl, Imp.refl⟩
      rw [Int.ofNat_sub hy]
      rfl
    · rw [show ((p : Int) - 1).toNat = p - 1 by omega, List.map_map]
      rfl
    repeat (walk_at "w")
    refine wc_all (by walk_at "rdl") ?_
    unfold ilS at k
    rw [decide_eq_true c1.1, decide_eq_true c1.2, Bool.true_and, Bool.true_and] at k
    exact ⟨_, _, k, by walk_at "imp"⟩
  · have e : ilS p n s = false := by
      unfold ilS
      by_cases h1 : 1 ≤ s
      · have h2 : ¬ (p - 1) * s ≤ n := fun h2 => c1 ⟨h1, h2⟩
        rw [decide_eq_true h1, decide_eq_false h2]
        rfl
      · rw [decide_eq_false h1]
        rfl
    rw [e] at k
    refine ws_seq (ws_if ?_)
    repeat (walk_at "w")
    refine ⟨_, _, Imp.refl, rfl, _, rfl, .inl ⟨_, rfl⟩, ?_⟩
    repeat (walk_at "w")
    refine if_no rfl ?_
    repeat (walk_at "w")
    refine if_dec (fun h1 => ?_) (fun h1 => ?_)
    · repeat (walk_at "w")
      exact Wk.of k
    repeat (walk_at "w")
    refine wr_mul (cmulx_of (a := 64) (b := L) (by omega) (by omega) (by decide) h0 (by omega)) ?_
    repeat (walk_at "w")
    have e1 : (n : Int) < ((p : Int) - 1) * (s : Int) := by
      have h2 : ¬ (p - 1) * s ≤ n := fun h2 => c1 ⟨by omega, h2⟩
      rw [hp1, ← Int.natCast_mul]
      omega
    refine if_yes (decide_eq_true e1) ?_
    repeat (walk_at "w")
    exact Wk.of k
theorem ws_is_long_step {K : Fg} {vs : List V} {D : DL} {O : OL} {P : V → DL → OL → Prop} (h : R_is_long_step K vs D O P) : WS K (t_is_long_step K) (start n_is_long_step vs) D O (Pf K P) := by
  obtain ⟨p, n, L, v, rfl, hp, hL, h0, hL2, hv, hs, k⟩ := h
  by_cases h : ∃ s : Nat, v = .int s ∧ 1 ≤ s
  · obtain ⟨s, rfl, h1⟩ := h
    refine ws_ilN ⟨p, n, s, L, rfl, hp, hL, ?_, h0, hL2, ?_⟩
    · have := hs _ rfl
      omega
    · have e : ilV p n (.int s) = ilS p n s := by
        show (if (1 : Int) ≤ s then ilS p n (s : Int).toNat else false) = _
        rw [if_pos (by omega), Int.toNat_natCast]
      rw [e] at k
      exact k
  · have e : ilV p n v = false := by
      cases v with
      | int s =>
        show (if (1 : Int) ≤ s then ilS p n s.toNat else false) = false
        rw [if_neg]
        intro h1
        exact h ⟨s.toNat, by rw [Int.toNat_of_nonneg (by omega)], by omega⟩
      | _ => rfl
    rw [e] at k
    unfold t_is_long_step
    repeat (walk_at "w")
    refine ⟨_, _, Imp.refl, rfl, _, rfl, hp, ?_⟩
    repeat (walk_at "w")
    refine ws_seq (ws_if ?_)
    repeat (walk_at "w")
    refine ⟨_, _, Imp.refl, rfl, _, rfl, hv, ?_⟩
    repeat (walk_at "w")
    refine if_b (fun h1 => ?_) (fun h1 => ?_)
    · refine if_t ?_
      repeat (walk_at "w")
      exact Wk.of k
    · cases v with
      | int s =>
        have hs1 : s < 1 := Int.not_le.mp fun h2 => h ⟨s.toNat, by rw [Int.toNat_of_nonneg (by omega)], by omega⟩
        repeat (walk_at "w")
        refine if_yes (decide_eq_true hs1) ?_
        refine if_t ?_
        repeat (walk_at "w")
        exact Wk.of k
      | _ => cases h1
theorem ok_is_long_step (T : Tx K mg) : OkF P w K mg base 5 "is_long_step" ["prime", "number", "step"] (R_is_long_step K) := by
  obtain ⟨d_need_prime, G_need_prime, b_need_prime, k_need_prime, m_need_prime, _⟩ := ok_need_prime (P := P) (w := w) (base := base) T
  obtain ⟨d_is_whole, G_is_whole, b_is_whole, k_is_whole, m_is_whole, _⟩ := ok_is_whole (P := P) (w := w) (base := base) T
  obtain ⟨d_is_taken, G_is_taken, b_is_taken, k_is_taken, m_is_taken, _⟩ := ok_is_taken (P := P) (w := w) (base := base) T
  obtain ⟨fd, F⟩ := T.d_is_long_step
  refine ⟨fd, F.ok sc_is_long_step (fun vs H Q E h => h.1) (fun cdv A outer s H vs Q E hr h => ?_), FunD.bindsN F (fun _ _ _ _ _ _ us hl => match us, hl with | [_, _, _], _ => rfl), F.kp, T.g_is_long_step, fun_lk F⟩
  have hu := hu_of hr
  exact ⟨t_is_long_step K, PSs.nox
    (pss_cons (ps_expr (pe_call G_need_prime (hr.mono (by decide)) (by rfl) m_need_prime k_need_prime b_need_prime .nil pass0 (pa_cons (pv 0) pa_nil)))
      (pss_cons (ps_if (PW.pt (pw_or (pt_not (pt_truth (pe_call G_is_whole (hr.mono (by decide)) (by rfl) m_is_whole k_is_whole b_is_whole .nil pass0 (pa_cons (pv 2) pa_nil)) (by intro _; rfl))) (pw_or (pt_cmpR op_lt (pv 2) pe_int (by first | exact nomark _ | rfl)) (pw_or1 (pt_cmpR op_gt (pe_op oMUL (pe_op oSUB (pv 0) pe_int) (pv 2)) (pv 1) (by first | exact nomark _ | rfl)))))) (pss_one (ps_ret pe_bl)) pss_nil)
      (pss_one (ps_ret (pe_callB (cr_all rfl) (by rfl) T.f_all (by decide +kernel) (pa_cons (pe_lc (own := [("k", 3)]) (by rfl) sc_is_long_step.nd (pi_range2 (by rfl) T.f_range (pa_cons pe_int (pa_cons (pv 0) pa_nil))) (blkOk_by (own := [("k", 3)]) (N := n_is_long_step) (sc := defScope s_is_long_step) (by decide +kernel)) (fun _ _ _ _ _ => (pg_name (i := 3) sc_is_long_step.nd rfl (by first | exact Or.inl rfl | exact Or.inr rfl))) (fun _ _ _ _ _ => pts_nil) (fun _ _ _ _ _ => (pe_call G_is_taken (hr.mono (by decide)) (by rfl) m_is_taken k_is_taken b_is_taken .nil pass0 (pa_cons (pv 0) (pa_cons (pe_op oSUB (pv 1) (pe_op oMUL (pv 3) (pv 2))) pa_nil))))) pa_nil)))))),
    body_of n_is_long_step (fun D O P hR => ws_is_long_step hR) h⟩
/-! law -/
def t_law (K : Fg) : TS :=
  (tSeq (tAsg (tCall (spW K 1 (R_law_pen K)) [] E0 (tCons (tVar 0) tNil)) (gName 1))
  (tSeq (tFor (iRng1 (tCons (tOp (rADD K) (tC (.int 1)) (tCB (rMIN K) (tCons (tC (.int 2)) (tCons (tCB (rLEN K) (tCons (tVar 0) tNil)) tNil)))) tNil)) (gName 2) (tSeq (tAsg (tTup (tCons (tCall (spW K 2 (R_law_pick K)) [] E0 (tCons (tVar 1) (tCons (tLst (tCons (tC (.int 3)) (tCons (tC (.int 5)) (tCons (tC (.int 7)) (tCons (tC (.int 11)) (tCons (tC (.int 13)) tNil)))))) tNil))) (tCons (tOp (rADD K) (tC (.int 20)) (tCall (spW K 2 (R_law_draw K)) [] E0 (tCons (tVar 1) (tCons (tC (.int 181)) tNil)))) tNil))) (gTup K 2 (gCons (gName 3) (gCons (gName 4) gNil))))
  (tSeq (tAsg (tCall (spW K 2 (R_law_taken K)) [] E0 (tCons (tVar 3) (tCons (tVar 4) tNil))) (gName 5))
  (tSeq (tAsg (tLc (iRng1 (tCons (tVar 4) tNil)) (gName 7) (tTru K (tOp (L2.rIx K) (tVar 5) (tVar 7))) (tVar 7) [7]) (gName 6))
  (tSeq (tIfS (tTest (tOp (rNE K) (tLc (iRng1 (tCons (tVar 4) tNil)) (gName 7) tYes (tCall (spW K 2 (R_is_taken K)) [] E0 (tCons (tVar 3) (tCons (tVar 7) tNil))) [7]) (tVar 5))) (tRet (tC (.bl false))) tNext)
  (tSeq (tIfS (tOr (tTest (tOp (rNE K) (tLc (iRng1 (tCons (tCB (rLEN K) (tCons (tVar 6) tNil)) tNil)) (gName 8) (tTest (tOp (rNE K) (tCall (spW K 2 (R_long_nth K)) [] E0 (tCons (tVar 3) (tCons (tVar 8) tNil))) (tOp (L2.rIx K) (tVar 6) (tVar 8)))) (tVar 8) [8]) (tLst tNil))) (tTest (tOp rLT (tCall (spW K 2 (R_long_nth K)) [] E0 (tCons (tVar 3) (tCons (tCB (rLEN K) (tCons (tVar 6) tNil)) tNil))) (tVar 4)))) (tRet (tC (.bl false))) tNext)
  (tFor (iRng1 (tCons (tC (.int 6)) tNil)) (gName 9) (tSeq (tAsg (tCall (spW K 2 (R_law_draw K)) [] E0 (tCons (tVar 1) (tCons (tVar 4) tNil))) (gName 7))
  (tSeq (tIfS (tTest (tOp (rNE K) (tCall (spW K 2 (R_long_count K)) [] E0 (tCons (tVar 3) (tCons (tVar 7) tNil))) (tCB (rLEN K) (tCons (tLc (iOr (iList K (tVar 6)) (iTup K (tVar 6))) (gName 10) (tTest (tOp rLT (tVar 10) (tVar 7))) (tVar 10) [10]) tNil)))) (tRet (tC (.bl false))) tNext)
  (tSeq (tAsg (tCall (spW K 2 (R_long_step K)) [] E0 (tCons (tVar 3) (tCons (tVar 7) tNil))) (gName 11))
  (tSeq (tIfS (tAnd (tTru K (tOp (L2.rIx K) (tVar 5) (tVar 7))) (tB (tNotN (tVar 11)))) (tRet (tC (.bl false))) tNext)
  (tSeq (tIfS (tAnd (tNot (tTru K (tOp (L2.rIx K) (tVar 5) (tVar 7)))) (tNot (tTru K (tCall (spW K 4 (R_law_is_barred K)) [] E0 (tCons (tVar 5) (tCons (tVar 3) (tCons (tVar 7) (tCons (tVar 11) tNil)))))))) (tRet (tC (.bl false))) tNext)
  (tSeq (tAsg (tCall (spW K 2 (R_law_pick K)) [] E0 (tCons (tVar 1) (tCons (tLst (tCons (tVar 11) (tCons (tC (.int 0)) (tCons (tUn rNEG (tC (.int 1))) (tCons (tC (.bl true)) (tCons (tC .non) (tCons (tC (.str "1")) (tCons (tTup (tCons (tC (.int 1)) tNil)) (tCons (tOp rPOW (tC (.int 10)) (tC (.int 59))) (tCons (tCall (spW K 2 (R_law_draw K)) [] E0 (tCons (tVar 1) (tCons (tC (.int 30)) tNil))) (tCons (tVar 7) tNil))))))))))) tNil))) (gName 12))
  (tIfS (tTest (tOp (rNE K) (tCB rREPR (tCons (tCall (spW K 3 (R_is_long_step K)) [] E0 (tCons (tVar 3) (tCons (tVar 7) (tCons (tVar 12) tNil)))) tNil)) (tCB rREPR (tCons (tCall (spW K 4 (R_law_is_barred K)) [] E0 (tCons (tVar 5) (tCons (tVar 3) (tCons (tVar 7) (tCons (tVar 12) tNil))))) tNil)))) (tRet (tC (.bl false))) tNext))))))))))))))
  (tRet (tAndV (tOp (rEQ K) (tCall (spW K 2 (R_long_count K)) [] E0 (tCons (tC (.int 3)) (tCons (tC (.int 0)) tNil))) (tC (.int 0))) (tOp rIsB (tCall (spW K 2 (R_is_taken K)) [] E0 (tCons (tC (.int 97)) (tCons (tC (.int 0)) tNil))) (tC (.bl true)))))))
theorem pr5 {d : PyData} (h : d ∈ [(3 : Int), 5, 7, 11, 13].map PyData.int) : ∃ p : Nat, d = .int p ∧ (p : Int) ∈ prs := by
  simp only [List.map_cons, List.map_nil, List.mem_cons, List.not_mem_nil, or_false] at h
  rcases h with rfl | rfl | rfl | rfl | rfl
  · exact ⟨3, rfl, by decide⟩
  · exact ⟨5, rfl, by decide⟩
  · exact ⟨7, rfl, by decide⟩
  · exact ⟨11, rfl, by decide⟩
  · exact ⟨13, rfl, by decide⟩
theorem ws_law {K : Fg} (C : Cn K) {a : Addr} {ns : List Int} (hl : ns.length ≤ 63) : WS K (t_law K) (start n_law [.ref a]) [(.ref a, dI ns)] [] (Pf K fun v _ _ => v = .bl true) := by
  unfold t_law
  repeat (walk_at "w")
  refine ⟨_, _, Imp.refl, rfl, _, ns, rfl, by walk_at "has", fun p => ?_⟩
  refine ws_seq (ws_forR1 ?_)
  repeat (walk_at "w")
  refine ⟨_, fun i σ D' O' => ∃ u2 u3 u4 u5 u6 u7 u8 u9 u10 u11 u12 : Option V, σ = [some (.ref a), some (.ref p), u2, u3, u4, u5, u6, u7, u8, u9, u10, u11, u12] ∧ D' = [(.ref a, dI ns)] ∧ O' = [PenE K p (1000 * i)], rfl, ⟨by omega, by omega⟩, Nx.of ⟨_, _, _, _, _, _, _, _, _, _, _, rfl, rfl, rfl⟩, ?_, ?_⟩
  · rintro i σ D' O' hi ⟨u2, u3, u4, u5, u6, u7, u8, u9, u10, u11, u12, rfl, rfl, rfl⟩
    have hi2 : i < 4 := by omega
    generalize hN : 1000 * i = N
    have hN2 : N < 4000 := by omega
    clear hi
    repeat (walk_at "w")
    refine ⟨_, _, Imp.refl, rfl, _, _, _, _, _, rfl, pm0, by walk_at "has", by walk_at "side", by walk_at "side", by walk_at "side", fun d hd => ?_⟩
    obtain ⟨r, rfl, hr⟩ := pr5 hd
    obtain ⟨h3, h97⟩ := prs_ge hr
    clear hd
    refine gv_i ?_
    repeat (walk_at "w")
    refine ⟨_, _, Imp.refl, rfl, _, _, _, _, rfl, pm0, by decide, by decide, by walk_at "side", fun z hz0 hz1 => ?_⟩
    obtain ⟨z, rfl⟩ := Int.eq_ofNat_of_zero_le hz0
    repeat (walk_at "w")
    have hu : 20 + z ≤ 200 := by omega
    have hu0 : (20 : Int) + (z : Int) = ((20 + z : Nat) : Int) := by omega
    rw [hu0]
    generalize hue : 20 + z = u at *
    have hu1 : 20 ≤ u := by omega
    clear hz0 hz1 hu0
    refine ⟨_, _, Imp.refl, rfl, r, u, rfl, hr, by omega, fun q => ?_⟩
    refine ws_frz ?_
    refine ws_imp (D' := [(.ref q, .list (((List.range u).map (tk r)).map .bool)), (.ref a, dI ns)]) (O' := [PenE K p (N + 10)]) (.trans (by walk_at "imp") (imp_penle (by omega))) ?_
    refine ws_seq (ws_set ?_)
    refine we_lcI (fun k => tk r k.toNat) .int ((mineI r u).map .int) ?_
    repeat (walk_at "w")
    refine ⟨by omega, trivial, by rw [rInts_len]; omega, fun x hx q2 acc => ?_, by rw [Int.toNat_natCast, mine_eq h3], fun mq => ?_⟩
    · have hx2 := rInts_mem.mp hx
      obtain ⟨y, rfl⟩ := Int.eq_ofNat_of_zero_le (show 0 ≤ x by omega)
      have hy : y < u := by omega
      repeat (walk_at "w")
      refine ⟨rfl, ?_⟩
      repeat (walk_at "w")
      refine wr_ixB (rdl_dat (by walk_at "has")) (by omega) (by rw [List.length_map, List.length_range]; omega) ?_
      rw [Int.toNat_natCast, getD_tk hy]
      repeat (walk_at "w")
      refine if_b (fun _ => ?_) (fun _ => by walk_at "imp")
      repeat (walk_at "w")
      exact ⟨fun _ => has_int, by walk_at "imp"⟩
    refine ws_seq (ws_skip ?t1 ?_)
    case t1 =>
      repeat (walk_at "w")
      refine we_lcY (fun x => .bool (tk r x.toNat)) (((List.range u).map (tk r)).map .bool) ?_
      repeat (walk_at "w")
      refine ⟨by omega, trivial, by rw [rInts_len]; omega, fun x hx q2 acc => ?_, ?_, fun q2 => ?_⟩
      · have hx2 := rInts_mem.mp hx
        obtain ⟨y, rfl⟩ := Int.eq_ofNat_of_zero_le (show 0 ≤ x by omega)
        have : (200 : Nat) < 2 ^ 8 := by decide
        repeat (walk_at "w")
        refine ⟨rfl, ?_⟩
        repeat (walk_at "w")
        exact ⟨_, _, Imp.refl, rfl, r, y, 8, rfl, hr, by omega, by decide, fun _ => has_bl, Imp.refl⟩
      · rw [Int.toNat_natCast, rInts0, List.map_map, List.map_map]
        rfl
      repeat (walk_at "w")
      refine wr_neLB (rdl_dat (by walk_at "has")) (rdl_dat (by walk_at "has")) ?_
      repeat (walk_at "w")
      exact ⟨nd rfl, by walk_at "imp"⟩
    have hcu := cnt_le h3 u
    refine ws_seq (ws_skip ?t2 ?_)
    case t2 =>
      repeat (walk_at "w")
      refine we_lcI (fun _ => false) .int (([] : List Int).map .int) ?_
      repeat (walk_at "w")
      rw [mine_len]
      refine ⟨by omega, trivial, by rw [rInts_len]; omega, fun x hx q2 acc => ?_, by simp, fun q2 => ?_⟩
      · have hx2 := rInts_mem.mp hx
        obtain ⟨y, rfl⟩ := Int.eq_ofNat_of_zero_le (show 0 ≤ x by omega)
        have hy : y < cnt r u := by omega
        have : (200 : Nat) < 2 ^ 8 := by decide
        repeat (walk_at "w")
        refine ⟨rfl, ?_⟩
        repeat (walk_at "w")
        refine ⟨_, _, Imp.refl, rfl, r, y, 8, rfl, hr, by omega, by decide, ?_⟩
        repeat (walk_at "w")
        refine wr_ixI (ns := mineI r u) (rdl_dat (by walk_at "has")) (by omega) (by rw [mine_len]; omega) ?_
        rw [Int.toNat_natCast, mine_get hy]
        repeat (walk_at "w")
        refine ⟨nd rfl, ?_⟩
        refine if_no (nd rfl) ?_
        exact Imp.refl
      repeat (walk_at "w")
      refine if_nne rfl ?_
      repeat (walk_at "w")
      refine ⟨_, _, Imp.refl, rfl, r, cnt r u, 8, ?_, hr, ?_, by decide, ?_⟩
      · rw [mine_len]
      · have : (200 : Nat) < 2 ^ 8 := by decide
        omega
      have hge := nth_ge h3 u
      repeat (walk_at "w")
      exact ⟨decide_eq_false (by omega), by walk_at "imp"⟩
    refine ws_forR1 ?_
    repeat (walk_at "w")
    refine ⟨_, fun k σ' D' O' => ∃ u7 u8 u9 u10 u11 u12 : Option V, σ' = [some (.ref a), some (.ref p), some (.int i), some (.int r), some (.int u), some (.ref q), some (.ref mq), u7, u8, u9, u10, u11, u12] ∧ D' = [(.ref mq, .list ((mineI r u).map .int)), (.ref q, .list (((List.range u).map (tk r)).map .bool)), (.ref a, dI ns)] ∧ O' = [PenE K p (N + 10 + 10 * k)], rfl, ⟨by decide, by decide⟩, Nx.of ⟨_, _, _, _, _, _, rfl, rfl, rfl⟩, ?_, ?_⟩
    · rintro k σ' D' O' hk ⟨u7, u8, u9, u10, u11, u12, rfl, rfl, rfl⟩
      have hk6 : k < 6 := hk
      repeat (walk_at "w")
      refine ⟨_, _, Imp.refl, rfl, _, _, _, _, rfl, pm0, by omega, by omega, by walk_at "side", fun y hy0 hy1 => ?_⟩
      obtain ⟨y, rfl⟩ := Int.eq_ofNat_of_zero_le hy0
      have hy : y < u := by omega
      have hy8 : y < 2 ^ 8 := Nat.lt_trans hy (Nat.lt_of_le_of_lt hu (by decide))
      clear hy0 hy1
      repeat (walk_at "w")
      refine ws_seq (ws_skip ?t1 ?_)
      case t1 =>
        repeat (walk_at "w")
        refine ⟨_, _, Imp.refl, rfl, r, y, 8, rfl, hr, hy8, by decide, ?_⟩
        repeat (walk_at "w")
        refine we_lcI (fun x => decide (x < (y : Int))) .int ((mineI r y).map .int) ?_
        refine wi_list ?_
        repeat (walk_at "w")
        refine ⟨by walk_at "has", by rw [mine_len]; omega, fun x hx q2 acc => ?_, by rw [mine_less h3 (by omega)], fun q2 => ?_⟩
        · repeat (walk_at "w")
          refine ⟨rfl, ?_⟩
          repeat (walk_at "w")
          refine if_b (fun _ => ?_) (fun _ => by walk_at "imp")
          repeat (walk_at "w")
          exact ⟨fun _ => has_int, by walk_at "imp"⟩
        repeat (walk_at "w")
        exact ⟨nd (by rw [mine_len]), by walk_at "imp"⟩
      repeat (walk_at "w")
      refine ⟨_, _, Imp.refl, rfl, r, y, 8, rfl, hr, hy8, by decide, ?_⟩
      have hkey := lstep_tk h3 y
      have hsy := lstep_ok h3 y
      have hst2 : lstep r y ≤ y := by
        have : 1 * lstep r y ≤ (r - 1) * lstep r y := Nat.mul_le_mul_right _ (by omega)
        omega
      have hil : ¬ lstep r y = 0 → ilS r y (lstep r y) = true := fun h => ilS_step h3 (by omega)
      generalize hst : lstep r y = st at *
      generalize hv : (if st = 0 then V.non else V.int st) = v
      have hvd : decide (v = .non) = tk r y := by
        rw [← hv]
        by_cases h : st = 0
        · rw [if_pos h, hkey.mp h]
          simp
        · rw [if_neg h]
          have : ¬ tk r y = true := fun e => h (hkey.mpr e)
          simp [this]
      obtain ⟨dv, hdv, htd⟩ : ∃ dv, (∀ D, Has K D v dv) ∧ TD dv := by
        rw [← hv]
        by_cases h : st = 0
        · rw [if_pos h]
          exact ⟨.none, fun _ => has_non, trivial⟩
        · rw [if_neg h]
          refine ⟨.int st, fun _ => has_int, ?_⟩
          have : (2 : Nat) ^ 8 < 2 ^ 300 := by decide
          show (st : Int).natAbs < 2 ^ 300
          omega
      show WS K _ [some (.ref a), some (.ref p), some (.int i), some (.int r), some (.int u), some (.ref q), some (.ref mq), some (.int y), u8, some (.int k), u10, some v, u12] _ _ _
      have ixq : ∀ {D' : DL} {O' : OL} {P : V → DL → OL → Prop}, Has K D' (.ref q) (.list (((List.range u).map (tk r)).map .bool)) → P (.bl (tk r y)) D' O' → WR K (L2.rIx K) (.ref q) (.int y) D' O' P := fun hh kk => by
        refine wr_ixB (rdl_dat hh) (by omega) (by rw [List.length_map, List.length_range]; omega) ?_
        rw [Int.toNat_natCast, getD_tk hy]
        exact kk
      refine ws_seq (ws_skip ?t2 ?_)
      case t2 =>
        repeat (walk_at "w")
        refine ixq (by walk_at "has") ?_
        repeat (walk_at "w")
        refine if_b (fun ht => ?_) (fun ht => ⟨rfl, Imp.refl⟩)
        repeat (walk_at "w")
        exact ⟨by rw [hvd, ht]; rfl, Imp.refl⟩
      refine ws_seq (ws_skip ?t3 ?_)
      case t3 =>
        repeat (walk_at "w")
        refine ixq (by walk_at "has") ?_
        repeat (walk_at "w")
        refine if_b (fun ht => ?_) (fun ht => ⟨rfl, Imp.refl⟩)
        have hs0 : ¬ st = 0 := fun e => by rw [hkey.mp e] at ht; cases ht
        rw [if_neg hs0] at hv
        subst hv
        have h8 : (2 : Nat) ^ 8 < 2 ^ 300 := by decide
        repeat (walk_at "w")
        refine ⟨_, _, Imp.refl, rfl, q, r, y, u, .int st, rfl, rdl_dat (by walk_at "has"), by omega, by omega, hr, .inl ⟨_, rfl⟩, fun s hs => by cases hs; omega, ?_⟩
        repeat (walk_at "w")
        have e : ilV r y (.int st) = ilS r y st := by
          show (if (1 : Int) ≤ st then ilS r y (st : Int).toNat else false) = _
          rw [if_pos (by omega), Int.toNat_natCast]
        rw [e, hil hs0]
        exact ⟨rfl, Imp.refl⟩
      repeat (walk_at "w")
      refine wr_pow ⟨by decide, by decide, by decide⟩ ?_
      repeat (walk_at "w")
      refine ⟨_, _, Imp.refl, rfl, _, _, _, _, rfl, pm0, by decide, by decide, by walk_at "side", fun z2 hz0 hz1 => ?_⟩
      repeat (walk_at "w")
      refine lst_go (Nat.le_of_ble_eq_true rfl) (hasl_cons (hdv _) (by walk_at "hasl")) ?_
      intro tq
      repeat (walk_at "w")
      refine ⟨_, _, Imp.refl, rfl, _, _, _, _, _, rfl, pm0, by walk_at "has", Nat.le_of_ble_eq_true rfl, Nat.le_of_ble_eq_true rfl, by walk_at "side", fun d hd => ?_⟩
      have htd2 : TD d := by
        simp only [List.map_cons, List.map_nil, List.mem_cons, List.not_mem_nil, or_false] at hd
        have h8 : (2 : Nat) ^ 8 < 2 ^ 300 := by decide
        rcases hd with rfl | rfl | rfl | rfl | rfl | rfl | rfl | rfl | rfl | rfl
        · exact htd
        · exact (by decide : ((0 : Int)).natAbs < 2 ^ 300)
        · exact (by decide : ((-1 : Int)).natAbs < 2 ^ 300)
        · trivial
        · trivial
        · trivial
        · trivial
        · exact (by decide : ((10 : Int) ^ (59 : Int).toNat).natAbs < 2 ^ 300)
        · show z2.natAbs < 2 ^ 300
          omega
        · show ((y : Nat) : Int).natAbs < 2 ^ 300
          omega
      refine gv_thg (K := K) htd2 (fun s ds H hs => by
        obtain ⟨_, _, e, _⟩ := has_tup_ref has_hd hs
        cases e) fun w D' sub hw hwb => ?_
      have hq : Has K D' (.ref q) (.list (((List.range u).map (tk r)).map .bool)) := has_mem (sub _ (by walk_at "mem"))
      repeat (walk_at "w")
      refine ws_skip ?t4 ?_
      case t4 =>
        repeat (walk_at "w")
        refine ⟨_, _, Imp.refl, rfl, r, y, 300, w, rfl, hr, Nat.lt_trans hy8 (by decide), by decide, by decide, hw, hwb, ?_⟩
        repeat (walk_at "w")
        refine ⟨_, _, Imp.refl, rfl, q, r, y, u, w, rfl, rdl_dat hq, by omega, by omega, hr, hw, hwb, ?_⟩
        repeat (walk_at "w")
        exact ⟨nd rfl, Imp.refl⟩
      refine ⟨_, _, ⟨_, _, _, _, _, _, rfl, rfl, rfl⟩, ?_⟩
      refine .trans (imp_sub fun x hx => sub x (List.mem_cons_of_mem _ (List.mem_cons_of_mem _ hx))) (imp_penle (by omega))
    · rintro σ' D' O' ⟨u7, u8, u9, u10, u11, u12, rfl, rfl, rfl⟩
      exact ⟨_, _, ⟨_, _, _, _, _, _, _, _, _, _, _, rfl, rfl, rfl⟩, .trans (by walk_at "imp") (imp_penle (by show N + 10 + 10 * 6 ≤ _; omega))⟩
  · rintro σ' D' O' ⟨u2, u3, u4, u5, u6, u7, u8, u9, u10, u11, u12, rfl, rfl, rfl⟩
    repeat (walk_at "w")
    refine ⟨_, _, Imp.refl, rfl, 3, 0, 1, rfl, by decide, by decide, by decide, ?_⟩
    repeat (walk_at "w")
    refine if_yes (by rw [cnt_zero]; rfl) ?_
    repeat (walk_at "w")
    refine ⟨_, _, Imp.refl, rfl, 97, 0, 1, rfl, by decide, by decide, by decide, ?_⟩
    repeat (walk_at "w")
    refine ⟨_, _, ?_, Imp.refl⟩
    show V.bl _ = V.bl true
    rw [tk_zero]
    rfl

theorem ok_law (T : Tx K mg) : OkF P w K mg base 6 "law" ["script"] (R_law K) := by
  obtain ⟨d_law_pen, G_law_pen, b_law_pen, k_law_pen, m_law_pen, _⟩ := ok_law_pen (P := P) (w := w) (base := base) T
  obtain ⟨d_law_draw, G_law_draw, b_law_draw, k_law_draw, m_law_draw, _⟩ := ok_law_draw (P := P) (w := w) (base := base) T
  obtain ⟨d_law_pick, G_law_pick, b_law_pick, k_law_pick, m_law_pick, _⟩ := ok_law_pick (P := P) (w := w) (base := base) T
  obtain ⟨d_law_taken, G_law_taken, b_law_taken, k_law_taken, m_law_taken, _⟩ := ok_law_taken (P := P) (w := w) (base := base) T
  obtain ⟨d_is_taken, G_is_taken, b_is_taken, k_is_taken, m_is_taken, _⟩ := ok_is_taken (P := P) (w := w) (base := base) T
  obtain ⟨d_long_nth, G_long_nth, b_long_nth, k_long_nth, m_long_nth, _⟩ := ok_long_nth (P := P) (w := w) (base := base) T
  obtain ⟨d_long_count, G_long_count, b_long_count, k_long_count, m_long_count, _⟩ := ok_long_count (P := P) (w := w) (base := base) T
  obtain ⟨d_long_step, G_long_step, b_long_step, k_long_step, m_long_step, _⟩ := ok_long_step (P := P) (w := w) (base := base) T
  obtain ⟨d_law_is_barred, G_law_is_barred, b_law_is_barred, k_law_is_barred, m_law_is_barred, _⟩ := ok_law_is_barred (P := P) (w := w) (base := base) T
  obtain ⟨d_is_long_step, G_is_long_step, b_is_long_step, k_is_long_step, m_is_long_step, _⟩ := ok_is_long_step (P := P) (w := w) (base := base) T
  obtain ⟨fd, F⟩ := T.d_law
  refine ⟨fd, F.ok sc_law (fun vs H Q E h => h.1) (fun cdv A outer s H vs Q E hr h => ?_), FunD.bindsN F (fun _ _ _ _ _ _ us hl => match us, hl with | [_], _ => rfl), F.kp, T.g_law, fun_lk F⟩
  have hu := hu_of hr
  exact ⟨t_law K, PSs.nox
    (pss_cons (ps_set (i := 1) sc_law.nd rfl (by first | exact Or.inl rfl | exact Or.inr rfl) (pe_call G_law_pen (hr.mono (by decide)) (by rfl) m_law_pen k_law_pen b_law_pen .nil pass0 (pa_cons (pv 0) pa_nil)))
      (pss_cons (ps_for PassesOwn.never rfl (pi_range1 (by rfl) T.f_range (pa_cons (pe_op oADD pe_int (pe_callB (cMIN rfl) (by rfl) T.f_min (by decide +kernel) (pa_cons pe_int (pa_cons (pe_callB cLEN (by rfl) T.f_len (by decide +kernel) (pa_cons (pv 0) pa_nil)) pa_nil)))) pa_nil)) (pg_name (i := 2) sc_law.nd rfl (by first | exact Or.inl rfl | exact Or.inr rfl)) (pss_cons (ps_asg (pe_tup (pa_cons (pe_call G_law_pick (hr.mono (by decide)) (by rfl) m_law_pick k_law_pick b_law_pick .nil pass0 (pa_cons (pv 1) (pa_cons (pe_lst (pa_cons pe_int (pa_cons pe_int (pa_cons pe_int (pa_cons pe_int (pa_cons pe_int pa_nil)))))) pa_nil))) (pa_cons (pe_op oADD pe_int (pe_call G_law_draw (hr.mono (by decide)) (by rfl) m_law_draw k_law_draw b_law_draw .nil pass0 (pa_cons (pv 1) (pa_cons pe_int pa_nil)))) pa_nil))) (pg_tup rfl (pgs_cons (pg_name (i := 3) sc_law.nd rfl (by first | exact Or.inl rfl | exact Or.inr rfl)) (pgs_cons (pg_name (i := 4) sc_law.nd rfl (by first | exact Or.inl rfl | exact Or.inr rfl)) pgs_nil))))
      (pss_cons (ps_set (i := 5) sc_law.nd rfl (by first | exact Or.inl rfl | exact Or.inr rfl) (pe_call G_law_taken (hr.mono (by decide)) (by rfl) m_law_taken k_law_taken b_law_taken .nil pass0 (pa_cons (pv 3) (pa_cons (pv 4) pa_nil))))
      (pss_cons (ps_set (i := 6) sc_law.nd rfl (by first | exact Or.inl rfl | exact Or.inr rfl) (pe_lc (own := [("number", 7)]) (by rfl) sc_law.nd (pi_range1 (by rfl) T.f_range (pa_cons (pv 4) pa_nil)) (blkOk_by (own := [("number", 7)]) (N := n_law) (sc := defScope s_law) (by decide +kernel)) (fun _ _ _ _ _ => (pg_name (i := 7) sc_law.nd rfl (by first | exact Or.inl rfl | exact Or.inr rfl))) (fun _ _ _ _ _ => (pts_one (pt_truth (pe_ix ix_seq (pv 5) (pv 7) (fun _ _ => rfl)) (by intro _; rfl)))) (fun _ _ _ _ _ => (pv 7))))
      (pss_cons (ps_if (pt_cmpR (oNE hr.units) (pe_lc (own := [("number", 7)]) (by rfl) sc_law.nd (pi_range1 (by rfl) T.f_range (pa_cons (pv 4) pa_nil)) (blkOk_by (own := [("number", 7)]) (N := n_law) (sc := defScope s_law) (by decide +kernel)) (fun _ _ _ _ _ => (pg_name (i := 7) sc_law.nd rfl (by first | exact Or.inl rfl | exact Or.inr rfl))) (fun _ _ _ _ _ => pts_nil) (fun _ _ _ _ _ => (pe_call G_is_taken (hr.mono (by decide)) (by rfl) m_is_taken k_is_taken b_is_taken .nil pass0 (pa_cons (pv 3) (pa_cons (pv 7) pa_nil))))) (pv 5) (by first | exact nomark _ | rfl)) (pss_one (ps_ret pe_bl)) pss_nil)
      (pss_cons (ps_if (PW.pt (pw_or (pt_cmpR (oNE hr.units) (pe_lc (own := [("k", 8)]) (by rfl) sc_law.nd (pi_range1 (by rfl) T.f_range (pa_cons (pe_callB cLEN (by rfl) T.f_len (by decide +kernel) (pa_cons (pv 6) pa_nil)) pa_nil)) (blkOk_by (own := [("k", 8)]) (N := n_law) (sc := defScope s_law) (by decide +kernel)) (fun _ _ _ _ _ => (pg_name (i := 8) sc_law.nd rfl (by first | exact Or.inl rfl | exact Or.inr rfl))) (fun _ _ _ _ _ => (pts_one (pt_cmpR (oNE hr.units) (pe_call G_long_nth (hr.mono (by decide)) (by rfl) m_long_nth k_long_nth b_long_nth .nil pass0 (pa_cons (pv 3) (pa_cons (pv 8) pa_nil))) (pe_ix ix_seq (pv 6) (pv 8) (fun _ _ => rfl)) (by first | exact nomark _ | rfl)))) (fun _ _ _ _ _ => (pv 8))) (pe_lst pa_nil) (by first | exact nomark _ | rfl)) (pw_or1 (pt_cmpR op_lt (pe_call G_long_nth (hr.mono (by decide)) (by rfl) m_long_nth k_long_nth b_long_nth .nil pass0 (pa_cons (pv 3) (pa_cons (pe_callB cLEN (by rfl) T.f_len (by decide +kernel) (pa_cons (pv 6) pa_nil)) pa_nil))) (pv 4) (by first | exact nomark _ | rfl))))) (pss_one (ps_ret pe_bl)) pss_nil)
      (pss_one (ps_for PassesOwn.never rfl (pi_range1 (by rfl) T.f_range (pa_cons pe_int pa_nil)) (pg_name (i := 9) sc_law.nd rfl (by first | exact Or.inl rfl | exact Or.inr rfl)) (pss_cons (ps_set (i := 7) sc_law.nd rfl (by first | exact Or.inl rfl | exact Or.inr rfl) (pe_call G_law_draw (hr.mono (by decide)) (by rfl) m_law_draw k_law_draw b_law_draw .nil pass0 (pa_cons (pv 1) (pa_cons (pv 4) pa_nil))))
      (pss_cons (ps_if (pt_cmpR (oNE hr.units) (pe_call G_long_count (hr.mono (by decide)) (by rfl) m_long_count k_long_count b_long_count .nil pass0 (pa_cons (pv 3) (pa_cons (pv 7) pa_nil))) (pe_callB cLEN (by rfl) T.f_len (by decide +kernel) (pa_cons (pe_lc (own := [("one", 10)]) (by rfl) sc_law.nd (pi_or2 (pi_list (pv 6)) (pi_tup (pv 6))) (blkOk_by (own := [("one", 10)]) (N := n_law) (sc := defScope s_law) (by decide +kernel)) (fun _ _ _ _ _ => (pg_name (i := 10) sc_law.nd rfl (by first | exact Or.inl rfl | exact Or.inr rfl))) (fun _ _ _ _ _ => (pts_one (pt_cmpR op_lt (pv 10) (pv 7) (by first | exact nomark _ | rfl)))) (fun _ _ _ _ _ => (pv 10))) pa_nil)) (by first | exact nomark _ | rfl)) (pss_one (ps_ret pe_bl)) pss_nil)
      (pss_cons (ps_set (i := 11) sc_law.nd rfl (by first | exact Or.inl rfl | exact Or.inr rfl) (pe_call G_long_step (hr.mono (by decide)) (by rfl) m_long_step k_long_step b_long_step .nil pass0 (pa_cons (pv 3) (pa_cons (pv 7) pa_nil))))
      (pss_cons (ps_if (PW.pt (pw_and (pt_truth (pe_ix ix_seq (pv 5) (pv 7) (fun _ _ => rfl)) (by intro _; rfl)) (pw_and1 (pt_cmp (pc_notN (pv 11)) rfl)))) (pss_one (ps_ret pe_bl)) pss_nil)
      (pss_cons (ps_if (PW.pt (pw_and (pt_not (pt_truth (pe_ix ix_seq (pv 5) (pv 7) (fun _ _ => rfl)) (by intro _; rfl))) (pw_and1 (pt_not (pt_truth (pe_call G_law_is_barred (hr.mono (by decide)) (by rfl) m_law_is_barred k_law_is_barred b_law_is_barred .nil pass0 (pa_cons (pv 5) (pa_cons (pv 3) (pa_cons (pv 7) (pa_cons (pv 11) pa_nil))))) (by intro _; rfl)))))) (pss_one (ps_ret pe_bl)) pss_nil)
      (pss_cons (ps_set (i := 12) sc_law.nd rfl (by first | exact Or.inl rfl | exact Or.inr rfl) (pe_call G_law_pick (hr.mono (by decide)) (by rfl) m_law_pick k_law_pick b_law_pick .nil pass0 (pa_cons (pv 1) (pa_cons (pe_lst (pa_cons (pv 11) (pa_cons pe_int (pa_cons (pe_un un_neg pe_int) (pa_cons pe_bl (pa_cons pe_non (pa_cons pe_str (pa_cons (pe_tup (pa_cons pe_int pa_nil)) (pa_cons (pe_op oPOW pe_int pe_int) (pa_cons (pe_call G_law_draw (hr.mono (by decide)) (by rfl) m_law_draw k_law_draw b_law_draw .nil pass0 (pa_cons (pv 1) (pa_cons pe_int pa_nil))) (pa_cons (pv 7) pa_nil))))))))))) pa_nil))))
      (pss_one (ps_if (pt_cmpR (oNE hr.units) (pe_callB cREPR (by rfl) T.f_repr (by decide +kernel) (pa_cons (pe_call G_is_long_step (hr.mono (by decide)) (by rfl) m_is_long_step k_is_long_step b_is_long_step .nil pass0 (pa_cons (pv 3) (pa_cons (pv 7) (pa_cons (pv 12) pa_nil)))) pa_nil)) (pe_callB cREPR (by rfl) T.f_repr (by decide +kernel) (pa_cons (pe_call G_law_is_barred (hr.mono (by decide)) (by rfl) m_law_is_barred k_law_is_barred b_law_is_barred .nil pass0 (pa_cons (pv 5) (pa_cons (pv 3) (pa_cons (pv 7) (pa_cons (pv 12) pa_nil))))) pa_nil)) (by first | exact nomark _ | rfl)) (pss_one (ps_ret pe_bl)) pss_nil))))))))))))))))
      (pss_one (ps_ret (pe_and (pe_cmpR (oEQ hr.units) (pe_call G_long_count (hr.mono (by decide)) (by rfl) m_long_count k_long_count b_long_count .nil pass0 (pa_cons pe_int (pa_cons pe_int pa_nil))) pe_int (by first | exact nomark _ | rfl)) (pe_one (pe_cmpR op_isBl (pe_call G_is_taken (hr.mono (by decide)) (by rfl) m_is_taken k_is_taken b_is_taken .nil pass0 (pa_cons pe_int (pa_cons pe_int pa_nil))) pe_bl (nomark _)))))))),
    body_of n_law (fun D O P hR => by obtain ⟨a, ns, rfl, hl, rfl, rfl, rfl⟩ := hR; exact ws_law T.cn hl) h⟩
end
/-! the head -/
def dd_law_pen : He.DefD := ⟨("_law_pen", none), "_law_pen", "_law_pen", defArgs s_law_pen, defBody s_law_pen, defScope s_law_pen, [], []⟩
def dd_law_draw : He.DefD := ⟨("_law_draw", none), "_law_draw", "_law_draw", defArgs s_law_draw, defBody s_law_draw, defScope s_law_draw, [], []⟩
def dd_law_pick : He.DefD := ⟨("_law_pick", none), "_law_pick", "_law_pick", defArgs s_law_pick, defBody s_law_pick, defScope s_law_pick, [], []⟩
def dd_law_is_number : He.DefD := ⟨("_law_is_number", none), "_law_is_number", "_law_is_number", defArgs s_law_is_number, defBody s_law_is_number, defScope s_law_is_number, [], []⟩
def dd_law_is_barred : He.DefD := ⟨("_law_is_barred", none), "_law_is_barred", "_law_is_barred", defArgs s_law_is_barred, defBody s_law_is_barred, defScope s_law_is_barred, [], []⟩
def dd_law_taken : He.DefD := ⟨("_law_taken", none), "_law_taken", "_law_taken", defArgs s_law_taken, defBody s_law_taken, defScope s_law_taken, [], []⟩
def dd_is_whole : He.DefD := ⟨("is_whole", none), "is_whole", "is_whole", defArgs s_is_whole, defBody s_is_whole, defScope s_is_whole, [], []⟩
def dd_need_prime : He.DefD := ⟨("need_prime", none), "need_prime", "need_prime", defArgs s_need_prime, defBody s_need_prime, defScope s_need_prime, [], []⟩
def dd_signs_by : He.DefD := ⟨("signs_by", none), "signs_by", "signs_by", defArgs s_signs_by, defBody s_signs_by, defScope s_signs_by, [], []⟩
def dd_is_taken : He.DefD := ⟨("is_taken", none), "is_taken", "is_taken", defArgs s_is_taken, defBody s_is_taken, defScope s_is_taken, [], []⟩
def dd_read_by : He.DefD := ⟨("read_by", none), "read_by", "read_by", defArgs s_read_by, defBody s_read_by, defScope s_read_by, [], []⟩
def dd_long_nth : He.DefD := ⟨("long_nth", none), "long_nth", "long_nth", defArgs s_long_nth, defBody s_long_nth, defScope s_long_nth, [], []⟩
def dd_long_count : He.DefD := ⟨("long_count", none), "long_count", "long_count", defArgs s_long_count, defBody s_long_count, defScope s_long_count, [], []⟩
def dd_long_step : He.DefD := ⟨("long_step", none), "long_step", "long_step", defArgs s_long_step, defBody s_long_step, defScope s_long_step, [], []⟩
def dd_is_long_step : He.DefD := ⟨("is_long_step", none), "is_long_step", "is_long_step", defArgs s_is_long_step, defBody s_is_long_step, defScope s_is_long_step, [], []⟩
def dd_law : He.DefD := ⟨("law", none), "law", "law", defArgs s_law, defBody s_law, defScope s_law, [], []⟩
def fn : List He.DefD := [dd_law_pen, dd_law_draw, dd_law_pick, dd_law_is_number, dd_law_is_barred, dd_law_taken, dd_is_whole, dd_need_prime, dd_signs_by, dd_is_taken, dd_read_by, dd_long_nth, dd_long_count, dd_long_step, dd_is_long_step, dd_law]
def fa : List He.Fa := [.glo "_law_pen", .glo "_law_draw", .glo "_law_pick", .glo "_law_is_number", .glo "_law_is_barred", .glo "_law_taken", .glo "is_whole", .glo "need_prime", .glo "signs_by", .glo "is_taken", .glo "read_by", .glo "long_nth", .glo "long_count", .glo "long_step", .glo "is_long_step", .glo "law", .free "abs", .free "all", .free "bool", .free "divmod", .free "int", .free "isinstance", .free "len", .free "list", .free "min", .free "range", .free "repr", .free "reversed", .glo "PRIMES"]
abbrev R : PySem.W.OpenRow := PySem.W.OpenLaw.row PySem.Challenge.rw_firstbooks_k92_numbers_taken_one_by_one
abbrev hk : PySem.W.Hook := hookT 4 fa fn tups
def ob (s : PySem.W.SharedT) : He.AlD × Bool := obT 4 fa fn tups (HandSHeadRun.getT s)
theorem ob_eq (s : PySem.W.SharedT) : ob s = hk.obs s.abs := obT_eq (HandSHeadRun.getT_eq s)
def loose : List Str := (["__name__", "BadPrime", "is_whole", "PRIMES", "need_prime", "signs_by", "read_by", "is_taken", "long_step", "is_long_step", "long_nth", "long_count", "_law_pen", "_law_draw", "_law_pick", "_law_is_number", "_law_is_barred", "_law_taken"] : List Str)
theorem run (w : World) : HandSHeadRun.RunEq R (PySem.W.view R.prog [21]) hk ob 20000 loose w := by
  intro os
  kernel_rfl
theorem facts {P : Program} {w : World} {K : Fg} {h : Heap} {mg : Str → Option Value} {f : Addr} (X : K.In h) (G : h.Ns mainGlobals mg) (hfa : mg ("law" : Str) = some (.ref f)) (c : He.SaysD fa fn K) (ct : ∀ t ∈ tups, tupB K (t.1 K) t.2 = true) :
    ∃ fd : FuncData, (∀ (s : Shared) (v : Value), BindsTo s fd ⟨[v], []⟩ [("script", v)]) ∧ ∀ base : Heap, K.In base → base.Ns mainGlobals mg → FnOk P w K mg base CX0 6 f fd ["script"] (spW K 1 (R_law K)) := by
  have T : Tx K mg := {
    d_law_pen := c.def_ 0 (d := dd_law_pen) rfl
    d_law_draw := c.def_ 1 (d := dd_law_draw) rfl
    d_law_pick := c.def_ 2 (d := dd_law_pick) rfl
    d_law_is_number := c.def_ 3 (d := dd_law_is_number) rfl
    d_law_is_barred := c.def_ 4 (d := dd_law_is_barred) rfl
    d_law_taken := c.def_ 5 (d := dd_law_taken) rfl
    d_is_whole := c.def_ 6 (d := dd_is_whole) rfl
    d_need_prime := c.def_ 7 (d := dd_need_prime) rfl
    d_signs_by := c.def_ 8 (d := dd_signs_by) rfl
    d_is_taken := c.def_ 9 (d := dd_is_taken) rfl
    d_read_by := c.def_ 10 (d := dd_read_by) rfl
    d_long_nth := c.def_ 11 (d := dd_long_nth) rfl
    d_long_count := c.def_ 12 (d := dd_long_count) rfl
    d_long_step := c.def_ 13 (d := dd_long_step) rfl
    d_is_long_step := c.def_ 14 (d := dd_is_long_step) rfl
    d_law := c.def_ 15 (d := dd_law) rfl
    g_law_pen := He.glo_ok X G (c.fact 0 (f := .glo "_law_pen") rfl)
    g_law_draw := He.glo_ok X G (c.fact 1 (f := .glo "_law_draw") rfl)
    g_law_pick := He.glo_ok X G (c.fact 2 (f := .glo "_law_pick") rfl)
    g_law_is_number := He.glo_ok X G (c.fact 3 (f := .glo "_law_is_number") rfl)
    g_law_is_barred := He.glo_ok X G (c.fact 4 (f := .glo "_law_is_barred") rfl)
    g_law_taken := He.glo_ok X G (c.fact 5 (f := .glo "_law_taken") rfl)
    g_is_whole := He.glo_ok X G (c.fact 6 (f := .glo "is_whole") rfl)
    g_need_prime := He.glo_ok X G (c.fact 7 (f := .glo "need_prime") rfl)
    g_signs_by := He.glo_ok X G (c.fact 8 (f := .glo "signs_by") rfl)
    g_is_taken := He.glo_ok X G (c.fact 9 (f := .glo "is_taken") rfl)
    g_read_by := He.glo_ok X G (c.fact 10 (f := .glo "read_by") rfl)
    g_long_nth := He.glo_ok X G (c.fact 11 (f := .glo "long_nth") rfl)
    g_long_count := He.glo_ok X G (c.fact 12 (f := .glo "long_count") rfl)
    g_long_step := He.glo_ok X G (c.fact 13 (f := .glo "long_step") rfl)
    g_is_long_step := He.glo_ok X G (c.fact 14 (f := .glo "is_long_step") rfl)
    g_law := He.glo_ok X G (c.fact 15 (f := .glo "law") rfl)
    f_abs := He.free_ok X G (c.fact 16 (f := .free "abs") rfl)
    f_all := He.free_ok X G (c.fact 17 (f := .free "all") rfl)
    f_bool := He.free_ok X G (c.fact 18 (f := .free "bool") rfl)
    f_divmod := He.free_ok X G (c.fact 19 (f := .free "divmod") rfl)
    f_int := He.free_ok X G (c.fact 20 (f := .free "int") rfl)
    f_isinstance := He.free_ok X G (c.fact 21 (f := .free "isinstance") rfl)
    f_len := He.free_ok X G (c.fact 22 (f := .free "len") rfl)
    f_list := He.free_ok X G (c.fact 23 (f := .free "list") rfl)
    f_min := He.free_ok X G (c.fact 24 (f := .free "min") rfl)
    f_range := He.free_ok X G (c.fact 25 (f := .free "range") rfl)
    f_repr := He.free_ok X G (c.fact 26 (f := .free "repr") rfl)
    f_reversed := He.free_ok X G (c.fact 27 (f := .free "reversed") rfl)
    g_PRIMES := He.glo_ok X G (c.fact 28 (f := .glo "PRIMES") rfl)
    cn := {
      tp := ct
    }
  }
  obtain ⟨fd0, F0⟩ := T.d_law
  have e := hfa.symm.trans T.g_law
  cases e
  have b := FunD.bindsA (ps := ["script"]) F0 fun _ _ _ _ _ _ us hl => match us, hl with | [_], _ => rfl
  refine ⟨fd0, fun s v => b s [v] rfl, fun base _ _ => ?_⟩
  obtain ⟨fd1, G1, _, _, _, lk1⟩ := ok_law (P := P) (w := w) (base := base) T
  have e2 := fd_eq lk1 (fun_lk F0)
  subst e2
  exact G1
end Lw
open PySem PySem.W PySem.Calls PyProof.Rows
theorem PySem.Challenge.cw_firstbooks_k92_numbers_taken_one_by_one_holds : PySem.Challenge.rw_firstbooks_k92_numbers_taken_one_by_one.Holds := by
  w_on; o_law
  refine HandSHeadRun.head_any (r := OpenLaw.row PySem.Challenge.rw_firstbooks_k92_numbers_taken_one_by_one) (q := view (OpenLaw.row PySem.Challenge.rw_firstbooks_k92_numbers_taken_one_by_one).prog [21]) (H := Lw.hk) (ob := Lw.ob) (M := 20000) (loose := Lw.loose) (d := HandSHeadRun.topDef (OpenLaw.row PySem.Challenge.rw_firstbooks_k92_numbers_taken_one_by_one).prog 21) (kwd := []) Lw.ob_eq
    (by kernel_rfl) (fun s => by kernel_rfl) Lw.run (by kernel_rfl) (by kernel_rfl) (by kernel_rfl) (by rfl) (by first | assumption | decide +kernel) (by decide +kernel) ⟨rfl, rfl, rfl, rfl, rfl, by decide +kernel⟩ ?hw ?hc
  case hw => w_witness2
  case hc =>
    refine L2.walk_ofE (l := PySem.Challenge.rw_firstbooks_k92_numbers_taken_one_by_one) (n := 63) (k := 6) (x := "script") (CX := L2.CX0) rfl (by decide) (by kernel_rfl) ⟨rfl, by decide, by decide⟩ ?F (fun _ _ _ _ z => z)
    intro w mg fa h Y G hmg0
    obtain ⟨K, KX, c, ct⟩ := Y
    have hmg : mg ("law" : PySem.Str) = some (.ref fa) := by
      have e : (HandSHeadRun.topDef (OpenLaw.row PySem.Challenge.rw_firstbooks_k92_numbers_taken_one_by_one).prog 21).name = ("law" : PySem.Str) := by kernel_rfl
      rw [← e]
      exact hmg0
    obtain ⟨fd, hb, hF⟩ := Lw.facts (P := (PySem.Challenge.rw_firstbooks_k92_numbers_taken_one_by_one).prog) (w := w) KX G hmg c ct
    exact ⟨K, fd, _, KX, hb, fun H a ns hl _ hS => Wp.law_start hl hS, hF⟩

