import PyProof.Rows.All
import Wide.All
import OpenK.AllK
import Wide.FinOn
import PySem.Challenge.RW_whicheverturning_k13_whole_frames_of_pic
import HandS.ForMost
import HandS.Wide
import HandS.Evl
import HandS.Star
import HandS.Zip
import HandS.IsInst
import HandS.Style
import HandS.TupAny
import HandS.Walk
import HandS.SetFor
import HandS.RaiseMore
import KE.DataMinMax
import KE.GoesMore
import KE.GoesEnum
import HandS.Conv
import HandS.Deep
import HandS.Slots
import HandS.Dict
import HandS.Small
import PyProof.ReprLen
import KE.KDictDisplayH
import KE.SortData
import HandS.TupLen
import HandS.TupSets
set_option Elab.async false
set_option linter.all false
set_option maxRecDepth 100000
set_option maxHeartbeats 4000000
/-! Toolkit 1: frozen data (None, bools, ints, texts, tuples of these) held by values; what evaluates to such data. -/
namespace WT
open PySem PySem.Spec PyProof.Rows L2 Evl
/-! ### frozen data -/
mutual
def Fz (K : PySem.W.Frag) (H : Hp) : PyData → V → Prop
  | .none, v => v = .non
  | .bool b, v => v = .bl b
  | .int i, v => v = .int i
  | .str s, v => v = .str s
  | .tuple ds, v => ∃ a xs, v = .ref a ∧ H a = some (.tup xs) ∧ FzL K H ds xs
  | .list _, _ => False
  | .dict _, _ => False
def FzL (K : PySem.W.Frag) (H : Hp) : List PyData → List V → Prop
  | [], xs => xs = []
  | d :: ds, xs => ∃ v r, xs = v :: r ∧ Fz K H d v ∧ FzL K H ds r
end
/-- what was a tuple is one still -/
def TEx (H H' : Hp) : Prop := ∀ a xs, H a = some (.tup xs) → H' a = some (.tup xs)
theorem TEx.refl (H : Hp) : TEx H H := fun _ _ h => h
theorem TEx.trans {H H1 H2 : Hp} (a : TEx H H1) (b : TEx H1 H2) : TEx H H2 := fun x xs h => b x xs (a x xs h)
theorem tex_of {H H' : Hp} (e : Ex H H') : TEx H H' := fun _ _ h => e _ _ h
/-- a list is changed -/
theorem tex_lst {H : Hp} {p : Addr} {xs : List V} {o : HO} (h : H p = some (.lst xs)) : TEx H (upd H p o) := fun a ys r => by
  have n : a ≠ p := fun e => by
    subst e
    rw [h] at r
    cases r
  rw [upd_ne n]
  exact r
theorem tex_t {K : PySem.W.Frag} {H H' : Hp} {a : Addr} {xs : List V} (e : TEx H H') (h : H a = some (.tup xs)) : SqT K H' a xs := st_of (e _ _ h)
section
variable {K : PySem.W.Frag} {H H' : Hp}
mutual
theorem Fz.mono (e : TEx H H') : ∀ (d : PyData) (v : V), Fz K H d v → Fz K H' d v
  | .none, _, h => h
  | .bool _, _, h => h
  | .int _, _, h => h
  | .str _, _, h => h
  | .tuple ds, v, h => by
    simp only [Fz] at h ⊢
    obtain ⟨a, xs, hv, hs, hf⟩ := h
    exact ⟨a, xs, hv, e _ _ hs, FzL.mono e ds xs hf⟩
  | .list _, _, h => h
  | .dict _, _, h => h
theorem FzL.mono (e : TEx H H') : ∀ (ds : List PyData) (xs : List V), FzL K H ds xs → FzL K H' ds xs
  | [], _, h => h
  | d :: ds, xs, h => by
    simp only [FzL] at h ⊢
    obtain ⟨v, r, hx, h1, h2⟩ := h
    exact ⟨v, r, hx, Fz.mono e d v h1, FzL.mono e ds r h2⟩
end
theorem fz_ex {d : PyData} {v : V} (e : Ex H H') (h : Fz K H d v) : Fz K H' d v := Fz.mono (tex_of e) d v h
theorem fzl_ex {ds : List PyData} {xs : List V} (e : Ex H H') (h : FzL K H ds xs) : FzL K H' ds xs := FzL.mono (tex_of e) ds xs h
theorem fz_int {i : Int} : Fz K H (.int i) (.int i) := by simp only [Fz]
theorem fz_str {s : Str} : Fz K H (.str s) (.str s) := by simp only [Fz]
theorem fz_bl {b : Bool} : Fz K H (.bool b) (.bl b) := by simp only [Fz]
theorem fz_non : Fz K H .none .non := by simp only [Fz]
theorem fz_tup {ds : List PyData} {a : Addr} {xs : List V} (h : H a = some (.tup xs)) (f : FzL K H ds xs) : Fz K H (.tuple ds) (.ref a) := by
  simp only [Fz]
  exact ⟨a, xs, rfl, h, f⟩
theorem fz_tupS {ds : List PyData} {v : V} (h : Fz K H (.tuple ds) v) : ∃ a xs, v = .ref a ∧ H a = some (.tup xs) ∧ FzL K H ds xs := by
  simpa only [Fz] using h
theorem fz_tupI {ds : List PyData} {v : V} (h : Fz K H (.tuple ds) v) : ∃ a xs, v = .ref a ∧ SqT K H a xs ∧ FzL K H ds xs := by
  obtain ⟨a, xs, rfl, h1, h2⟩ := fz_tupS h
  exact ⟨a, xs, rfl, st_of h1, h2⟩
theorem fz_intI {i : Int} {v : V} (h : Fz K H (.int i) v) : v = .int i := by simpa only [Fz] using h
theorem fz_strI {i : Str} {v : V} (h : Fz K H (.str i) v) : v = .str i := by simpa only [Fz] using h
theorem fz_blI {i : Bool} {v : V} (h : Fz K H (.bool i) v) : v = .bl i := by simpa only [Fz] using h
theorem fz_nonI {v : V} (h : Fz K H .none v) : v = .non := by simpa only [Fz] using h
theorem fzl_nil : FzL K H [] [] := by simp only [FzL]
theorem fzl_cons {d : PyData} {ds : List PyData} {v : V} {xs : List V} (h : Fz K H d v) (f : FzL K H ds xs) : FzL K H (d :: ds) (v :: xs) := by
  simp only [FzL]
  exact ⟨v, xs, rfl, h, f⟩
theorem fzl_nilI {xs : List V} (h : FzL K H [] xs) : xs = [] := by simpa only [FzL] using h
theorem fzl_consI {d : PyData} {ds : List PyData} {xs : List V} (h : FzL K H (d :: ds) xs) : ∃ v r, xs = v :: r ∧ Fz K H d v ∧ FzL K H ds r := by
  simpa only [FzL] using h
theorem fzl_len : ∀ {ds : List PyData} {xs : List V}, FzL K H ds xs → xs.length = ds.length
  | [], _, h => by
    rw [fzl_nilI h]
    rfl
  | d :: ds, _, h => by
    obtain ⟨v, r, rfl, _, h2⟩ := fzl_consI h
    rw [List.length_cons, List.length_cons, fzl_len h2]
theorem fzl_get : ∀ {ds : List PyData} {xs : List V} {i : Nat} {d : PyData}, FzL K H ds xs → ds[i]? = some d → ∃ v, xs[i]? = some v ∧ Fz K H d v
  | [], _, _, _, _, e => by simp at e
  | d :: ds, _, 0, _, h, e => by
    obtain ⟨v, r, rfl, h1, _⟩ := fzl_consI h
    cases (Option.some.inj e)
    exact ⟨v, rfl, h1⟩
  | d :: ds, _, i + 1, _, h, e => by
    obtain ⟨v, r, rfl, _, h2⟩ := fzl_consI h
    exact fzl_get (ds := ds) (i := i) h2 (by simpa using e)
theorem fzl_getV {ds : List PyData} {xs : List V} {i : Nat} {v : V} (h : FzL K H ds xs) (e : xs[i]? = some v) : ∃ d, ds[i]? = some d ∧ Fz K H d v := by
  have hl := fzl_len h
  have hi := (List.getElem?_eq_some_iff.mp e).1
  have hd : ds[i]? = some (ds[i]'(by omega)) := List.getElem?_eq_getElem _
  obtain ⟨v', e', f⟩ := fzl_get h hd
  rw [e] at e'
  cases e'
  exact ⟨_, hd, f⟩
theorem fzl_append : ∀ {ds es : List PyData} {xs ys : List V}, FzL K H ds xs → FzL K H es ys → FzL K H (ds ++ es) (xs ++ ys)
  | [], _, _, _, h, k => by
    rw [fzl_nilI h]
    exact k
  | d :: ds, _, _, _, h, k => by
    obtain ⟨v, r, rfl, h1, h2⟩ := fzl_consI h
    exact fzl_cons h1 (fzl_append h2 k)
theorem fzl_set : ∀ {ds : List PyData} {xs : List V} {d : PyData} {v : V} (i : Nat), FzL K H ds xs → Fz K H d v → FzL K H (ds.set i d) (xs.set i v)
  | [], _, _, _, _, h, _ => by
    rw [fzl_nilI h]
    exact fzl_nil
  | d :: ds, _, _, _, 0, h, k => by
    obtain ⟨v, r, rfl, h1, h2⟩ := fzl_consI h
    exact fzl_cons k h2
  | d :: ds, _, _, _, i + 1, h, k => by
    obtain ⟨v, r, rfl, h1, h2⟩ := fzl_consI h
    exact fzl_cons h1 (fzl_set i h2 k)
theorem fzl_take : ∀ {ds : List PyData} {xs : List V} (i : Nat), FzL K H ds xs → FzL K H (ds.take i) (xs.take i)
  | _, _, 0, _ => by simpa using fzl_nil
  | [], _, _ + 1, h => by
    rw [fzl_nilI h]
    exact fzl_nil
  | d :: ds, _, i + 1, h => by
    obtain ⟨v, r, rfl, h1, h2⟩ := fzl_consI h
    exact fzl_cons h1 (fzl_take i h2)
theorem fzl_drop : ∀ {ds : List PyData} {xs : List V} (i : Nat), FzL K H ds xs → FzL K H (ds.drop i) (xs.drop i)
  | _, _, 0, h => by simpa using h
  | [], _, _ + 1, h => by
    rw [fzl_nilI h]
    exact fzl_nil
  | d :: ds, _, i + 1, h => by
    obtain ⟨v, r, rfl, h1, h2⟩ := fzl_consI h
    exact fzl_drop i h2
theorem fzl_ints : ∀ {ns : List Int} {xs : List V}, FzL K H (ns.map PyData.int) xs ↔ xs = ns.map V.int
  | [], xs => by simp only [List.map_nil, FzL]
  | n :: ns, xs => by
    simp only [List.map_cons, FzL, Fz]
    constructor
    · rintro ⟨v, r, rfl, rfl, h⟩
      rw [fzl_ints.mp h]
    · rintro rfl
      exact ⟨_, _, rfl, rfl, fzl_ints.mpr rfl⟩
mutual
theorem fz_dp : ∀ (d : PyData) (v : V), Fz K H d v → Dp K H v d
  | .none, _, h => by rw [fz_nonI h]; exact .non
  | .bool b, _, h => by rw [fz_blI h]; exact .bl b
  | .int i, _, h => by rw [fz_intI h]; exact .int i
  | .str s, _, h => by rw [fz_strI h]; exact .str s
  | .tuple ds, v, h => by
    obtain ⟨a, xs, rfl, hs, hf⟩ := fz_tupI h
    exact .tup hs (fzl_dp ds xs hf)
  | .list _, _, h => by simp only [Fz] at h
  | .dict _, _, h => by simp only [Fz] at h
theorem fzl_dp : ∀ (ds : List PyData) (xs : List V), FzL K H ds xs → DpAll K H xs ds
  | [], _, h => by rw [fzl_nilI h]; exact .nil
  | d :: ds, _, h => by
    obtain ⟨v, r, rfl, h1, h2⟩ := fzl_consI h
    exact .cons (fz_dp d v h1) (fzl_dp ds r h2)
end
end
/-! ### plain data: no bools within -/
mutual
def plain : PyData → Bool
  | .none | .int _ => true
  | .str s => PyData.strOk s
  | .tuple ds => plainL ds
  | .bool _ | .list _ | .dict _ => false
def plainL : List PyData → Bool
  | [] => true
  | d :: ds => plain d && plainL ds
end
mutual
theorem eqv_iff : ∀ (d e : PyData), plain d = true → plain e = true → (PyData.eqv d e = true ↔ d = e)
  | .none, e, _, he => by cases e <;> simp_all [PyData.eqv, plain]
  | .int i, e, _, he => by cases e <;> simp_all [PyData.eqv, plain]
  | .str s, e, _, he => by cases e <;> simp_all [PyData.eqv, plain]
  | .tuple ds, e, hd, he => by
    cases e with
    | tuple es =>
      have h := eqv_iffL ds es (by simpa only [plain] using hd) (by simpa only [plain] using he)
      simp only [PyData.eqv, PyData.tuple.injEq]
      exact h
    | _ => simp_all [PyData.eqv, plain]
  | .bool _, _, hd, _ => by simp [plain] at hd
  | .list _, _, hd, _ => by simp [plain] at hd
  | .dict _, _, hd, _ => by simp [plain] at hd
theorem eqv_iffL : ∀ (ds es : List PyData), plainL ds = true → plainL es = true → (PyData.eqvAll ds es = true ↔ ds = es)
  | [], [], _, _ => by simp [PyData.eqvAll]
  | [], _ :: _, _, _ => by simp [PyData.eqvAll]
  | _ :: _, [], _, _ => by simp [PyData.eqvAll]
  | d :: ds, e :: es, hd, he => by
    simp only [plainL, Bool.and_eq_true] at hd he
    simp only [PyData.eqvAll, Bool.and_eq_true, List.cons.injEq, eqv_iff d e hd.1 he.1, eqv_iffL ds es hd.2 he.2]
end
theorem eqv_yes {d : PyData} (h : plain d = true) : PyData.eqv d d = true := (eqv_iff d d h h).mpr rfl
theorem eqv_no {d e : PyData} (h : plain d = true) (k : plain e = true) (n : d ≠ e) : PyData.eqv d e = false := by
  cases q : PyData.eqv d e with
  | false => rfl
  | true => exact absurd ((eqv_iff d e h k).mp q) n
mutual
theorem plain_lay : ∀ d : PyData, plain d = true → d.canLay0 = true
  | .none, _ => by simp only [PyData.canLay0]
  | .int _, _ => by simp only [PyData.canLay0]
  | .str _, h => by simpa only [PyData.canLay0, plain] using h
  | .tuple ds, h => by
    simp only [PyData.canLay0]
    exact plain_layL ds (by simpa only [plain] using h)
  | .bool _, h => by simp [plain] at h
  | .list _, h => by simp [plain] at h
  | .dict _, h => by simp [plain] at h
theorem plain_layL : ∀ ds : List PyData, plainL ds = true → PyData.canLayAll0 ds = true
  | [], _ => by simp only [PyData.canLayAll0]
  | d :: ds, h => by
    simp only [plainL, Bool.and_eq_true] at h
    simp only [PyData.canLayAll0, Bool.and_eq_true]
    exact ⟨plain_lay d h.1, plain_layL ds h.2⟩
end
/-- plain and not deep -/
def Plain (d : PyData) : Prop := plain d = true ∧ d.depth ≤ 60
theorem Plain.shaped {d : PyData} (h : Plain d) : SeqAt.shaped d = true := by
  unfold SeqAt.shaped
  rw [plain_lay d h.1, decide_eq_true (Nat.le_trans h.2 (by decide : (60 : Nat) ≤ 64))]
  rfl
theorem plainL_all : ∀ {ds : List PyData}, (∀ d ∈ ds, plain d = true) → plainL ds = true
  | [], _ => rfl
  | d :: ds, h => by
    simp only [plainL, Bool.and_eq_true]
    exact ⟨h d List.mem_cons_self, plainL_all fun e he => h e (List.mem_cons_of_mem _ he)⟩
theorem depthAll_le {n : Nat} : ∀ {ds : List PyData}, (∀ d ∈ ds, d.depth ≤ n) → PyData.depthAll ds ≤ n
  | [], _ => by simp only [PyData.depthAll]; omega
  | d :: ds, h => by
    simp only [PyData.depthAll]
    have h1 := h d List.mem_cons_self
    have h2 := depthAll_le (ds := ds) fun e he => h e (List.mem_cons_of_mem _ he)
    omega
theorem Plain.tup {ds : List PyData} {n : Nat} (h : ∀ d ∈ ds, plain d = true ∧ d.depth ≤ n) : plain (.tuple ds) = true ∧ (PyData.tuple ds).depth ≤ n + 1 := by
  refine ⟨?_, ?_⟩
  · simp only [plain]
    exact plainL_all fun d hd => (h d hd).1
  · simp only [PyData.depth]
    have := depthAll_le (ds := ds) fun d hd => (h d hd).2
    omega
theorem Plain.of {d : PyData} {n : Nat} (h : plain d = true ∧ d.depth ≤ n) (hn : n ≤ 60 := by decide) : Plain d := ⟨h.1, Nat.le_trans h.2 hn⟩
theorem plain_int (i : Int) : plain (.int i) = true ∧ (PyData.int i).depth ≤ 0 := ⟨by simp only [plain], by simp only [PyData.depth]; omega⟩
theorem plain_str (i : Str) (h : PyData.strOk i = true) : plain (.str i) = true ∧ (PyData.str i).depth ≤ 0 := ⟨by simpa only [plain] using h, by simp only [PyData.depth]; omega⟩
theorem plain_up {d : PyData} {n m : Nat} (h : plain d = true ∧ d.depth ≤ n) (hm : n ≤ m) : plain d = true ∧ d.depth ≤ m := ⟨h.1, Nat.le_trans h.2 hm⟩
/-! ### tuples of naturals, rows of them -/
/-- a tuple of naturals -/
def tN (ns : List Nat) : PyData := .tuple (ns.map fun n : Nat => .int (n : Int))
/-- a tuple of tuples of naturals -/
def tNN (rs : List (List Nat)) : PyData := .tuple (rs.map tN)
theorem tN_plain (ns : List Nat) : plain (tN ns) = true ∧ (tN ns).depth ≤ 1 := Plain.tup (n := 0) fun d hd => by
  obtain ⟨n, _, rfl⟩ := List.mem_map.mp hd
  exact plain_int _
theorem tNN_plain (rs : List (List Nat)) : plain (tNN rs) = true ∧ (tNN rs).depth ≤ 2 := Plain.tup (n := 1) fun d hd => by
  obtain ⟨n, _, rfl⟩ := List.mem_map.mp hd
  exact tN_plain _
theorem map_inj {α β : Type} {f : α → β} (hf : ∀ x y, f x = f y → x = y) : ∀ {a b : List α}, a.map f = b.map f → a = b
  | [], [], _ => rfl
  | [], _ :: _, h => by simp at h
  | _ :: _, [], h => by simp at h
  | x :: a, y :: b, h => by
    rw [List.map_cons, List.map_cons] at h
    injection h with h1 h2
    rw [hf x y h1, map_inj hf h2]
theorem tN_inj {a b : List Nat} (h : tN a = tN b) : a = b := by
  exact map_inj (fun x y e => Int.ofNat.inj (PyData.int.inj e)) (PyData.tuple.inj h)
theorem tNN_inj {a b : List (List Nat)} (h : tNN a = tNN b) : a = b :=
  map_inj (fun _ _ e => tN_inj e) (PyData.tuple.inj h)
section
variable {K : PySem.W.Frag} {H H' : Hp}
/-- the values of naturals -/
def vN (ns : List Nat) : List V := ns.map fun n : Nat => V.int (n : Int)
theorem fzl_nats : ∀ {ns : List Nat} {xs : List V}, FzL K H (ns.map fun n : Nat => .int (n : Int)) xs ↔ xs = vN ns
  | [], xs => by simp only [List.map_nil, FzL, vN]
  | n :: ns, xs => by
    simp only [List.map_cons, FzL, Fz, vN]
    constructor
    · rintro ⟨v, r, rfl, rfl, h⟩
      rw [fzl_nats.mp h]
      rfl
    · rintro rfl
      exact ⟨_, _, rfl, rfl, fzl_nats.mpr rfl⟩
theorem fz_tN {ns : List Nat} {v : V} : Fz K H (tN ns) v ↔ ∃ a, v = .ref a ∧ H a = some (.tup (vN ns)) := by
  unfold tN
  constructor
  · intro h
    obtain ⟨a, xs, rfl, hs, hf⟩ := fz_tupS h
    rw [fzl_nats.mp hf] at hs
    exact ⟨a, rfl, hs⟩
  · rintro ⟨a, rfl, hs⟩
    exact fz_tup hs (fzl_nats.mpr rfl)
theorem vN_get {ns : List Nat} {i : Nat} : (vN ns)[i]? = ns[i]?.map fun n : Nat => V.int (n : Int) := by
  unfold vN
  rw [List.getElem?_map]
theorem vN_len (ns : List Nat) : (vN ns).length = ns.length := by
  unfold vN
  rw [List.length_map]
theorem vN_flat (ns : List Nat) : (vN ns).all flatV = true := by
  rw [List.all_eq_true]
  intro x hx
  obtain ⟨n, _, rfl⟩ := List.mem_map.mp hx
  rfl
end
end WT
/-! Toolkit 2: what evaluates to frozen data; statements; loops. -/
namespace WT
open PySem PySem.Spec PyProof.Rows L2 Evl
/-- an argument: frozen data, or a very value -/
inductive Ag where
  | d (x : PyData) | v (x : V)
def AgO (K : PySem.W.Frag) (H : Hp) : Ag → V → Prop
  | .d x, v => Fz K H x v
  | .v x, v => v = x
def AgL (K : PySem.W.Frag) (H : Hp) : List Ag → List V → Prop
  | [], xs => xs = []
  | a :: as, xs => ∃ v r, xs = v :: r ∧ AgO K H a v ∧ AgL K H as r
def Ed (K : PySem.W.Frag) (te : TE) (σ : L2.St) (H : Hp) (d : PyData) : Prop := ∀ H1, Ex H H1 → ∀ Q : VK, (∀ v H2, Ex H1 H2 → Fz K H2 d v → Q v H2) → te σ H1 Q
/-- a new list of frozen data -/
def El (K : PySem.W.Frag) (te : TE) (σ : L2.St) (H : Hp) (ds : List PyData) : Prop := ∀ H1, Ex H H1 → ∀ Q : VK, (∀ p xs H2, H1 p = none → Ex H1 H2 → H2 p = some (.lst xs) → FzL K H2 ds xs → Q (.ref p) H2) → te σ H1 Q
def Ea (K : PySem.W.Frag) (ta : TA) (σ : L2.St) (H : Hp) (as : List Ag) : Prop := ∀ H1, Ex H H1 → ∀ Q : List V → Hp → Prop, (∀ vs H2, Ex H1 H2 → AgL K H2 as vs → Q vs H2) → ta σ H1 Q
section
variable {K : PySem.W.Frag} {σ : L2.St} {H H' : Hp} {ta tb te : TE} {tr : TA} {t u : TT} {d e : PyData} {ds es : List PyData} {v x y : V}
theorem ago_ex (e : Ex H H') : ∀ {a : Ag} {v : V}, AgO K H a v → AgO K H' a v
  | .d _, _, h => fz_ex e h
  | .v _, _, h => h
theorem agl_ex (e : Ex H H') : ∀ {as : List Ag} {xs : List V}, AgL K H as xs → AgL K H' as xs
  | [], _, h => h
  | _ :: _, _, ⟨v, r, h, h1, h2⟩ => ⟨v, r, h, ago_ex e h1, agl_ex e h2⟩
theorem agl_fz : ∀ {ds : List PyData} {xs : List V}, AgL K H (ds.map Ag.d) xs → FzL K H ds xs
  | [], _, h => by
    rw [show _ = [] from h]
    exact fzl_nil
  | _ :: _, _, ⟨v, r, h, h1, h2⟩ => by
    rw [h]
    exact fzl_cons h1 (agl_fz h2)
theorem fz_agl : ∀ {ds : List PyData} {xs : List V}, FzL K H ds xs → AgL K H (ds.map Ag.d) xs
  | [], _, h => fzl_nilI h
  | _ :: _, _, h => by
    obtain ⟨v, r, h, h1, h2⟩ := fzl_consI h
    exact ⟨v, r, h, h1, fz_agl h2⟩
theorem agl_app : ∀ {as bs : List Ag} {xs ys : List V}, AgL K H as xs → AgL K H bs ys → AgL K H (as ++ bs) (xs ++ ys)
  | [], _, _, _, h, k => by
    rw [show _ = [] from h]
    exact k
  | _ :: _, _, _, _, ⟨v, r, h, h1, h2⟩, k => by
    rw [h]
    exact ⟨v, _, rfl, h1, agl_app h2 k⟩
theorem agl_len : ∀ {as : List Ag} {xs : List V}, AgL K H as xs → xs.length = as.length
  | [], _, h => by
    rw [show _ = [] from h]
    rfl
  | _ :: _, _, ⟨v, r, h, h1, h2⟩ => by
    rw [h, List.length_cons, List.length_cons, agl_len h2]
theorem Ed.mono (e : Ex H H') (h : Ed K te σ H d) : Ed K te σ H' d := fun H1 a Q q => h H1 (e.trans a) Q q
theorem El.mono (e : Ex H H') (h : El K te σ H ds) : El K te σ H' ds := fun H1 a Q q => h H1 (e.trans a) Q q
theorem ed_ev (h : Ev te σ H v) (f : Fz K H d v) : Ed K te σ H d := fun H1 e Q q => h H1 e Q fun H2 e2 => q v H2 e2 (fz_ex (e.trans e2) f)
theorem ed_var {i : Nat} (h : σ[i]? = some (some v)) (f : Fz K H d v) : Ed K (tVar i) σ H d := ed_ev (ev_var h) f
theorem ev_ed (h : Ed K te σ H d) (f : ∀ H2 v, Fz K H2 d v → v = x) : Ev te σ H x := fun H1 e Q q => h H1 e Q fun v H2 e2 hf => by
  rw [f H2 v hf]
  exact q H2 e2
theorem ev_int {i : Int} (h : Ed K te σ H (.int i)) : Ev te σ H (.int i) := ev_ed h fun _ _ => fz_intI
theorem ev_bool {i : Bool} (h : Ed K te σ H (.bool i)) : Ev te σ H (.bl i) := ev_ed h fun _ _ => fz_blI
theorem ev_strD {i : Str} (h : Ed K te σ H (.str i)) : Ev te σ H (.str i) := ev_ed h fun _ _ => fz_strI
theorem ed_is (h : Ed K te σ H d) (q : d = e) : Ed K te σ H e := q ▸ h
theorem ea_nil : Ea K tNil σ H [] := fun H1 _ _ q => q _ H1 (Ex.refl H1) rfl
theorem ea_d {as : List Ag} (h : Ed K te σ H d) (hr : Ea K tr σ H as) : Ea K (tCons te tr) σ H (.d d :: as) := fun H1 e _ q =>
  h H1 e _ fun v H2 e2 f => hr H2 (e.trans e2) _ fun vs H3 e3 k => q (v :: vs) H3 (e2.trans e3) ⟨v, vs, rfl, fz_ex e3 f, k⟩
theorem ea_v {as : List Ag} (h : Ev te σ H v) (hr : Ea K tr σ H as) : Ea K (tCons te tr) σ H (.v v :: as) := fun H1 e _ q =>
  h H1 e _ fun H2 e2 => hr H2 (e.trans e2) _ fun vs H3 e3 k => q (v :: vs) H3 (e2.trans e3) ⟨v, vs, rfl, rfl, k⟩
/-- *e, e a tuple -/
theorem ea_star {as : List Ag} (h : Ed K te σ H (.tuple ds)) (hr : Ea K tr σ H as) : Ea K (StX.tStar K te tr) σ H (ds.map Ag.d ++ as) := fun H1 e _ q =>
  h H1 e _ fun v H2 e2 f => by
    obtain ⟨a, xs, rfl, hs, hf⟩ := fz_tupI f
    exact ⟨a, xs, rfl, .inl hs, hr H2 (e.trans e2) _ fun vs H3 e3 k => q (xs ++ vs) H3 (e2.trans e3) (agl_app (fz_agl (fzl_ex e3 hf)) k)⟩
/-- *e, e a list that stands -/
theorem ea_starL {as : List Ag} {p : Addr} {xs : List V} (h : Ev te σ H (.ref p)) (hp : SqL K H p xs) (hf : FzL K H ds xs) (hr : Ea K tr σ H as) : Ea K (StX.tStar K te tr) σ H (ds.map Ag.d ++ as) := fun H1 e _ q =>
  h H1 e _ fun H2 e2 => ⟨p, xs, rfl, .inr (ex_l (e.trans e2) hp), hr H2 (e.trans e2) _ fun vs H3 e3 k => q (xs ++ vs) H3 (e2.trans e3) (agl_app (fz_agl (fzl_ex ((e.trans e2).trans e3) hf)) k)⟩
theorem ed_tup (h : Ea K tr σ H (ds.map Ag.d)) (hl : ds.length ≤ 100000) : Ed K (tTup tr) σ H (.tuple ds) := fun H1 e _ q =>
  h H1 e _ fun vs H2 e2 k => by
    have f := agl_fz k
    exact ⟨sz_of (by rw [fzl_len f]; exact hl), fun p hp => q (.ref p) _ (e2.trans (Ex.new hp)) (fz_tup upd_same (fzl_ex (Ex.new hp) f))⟩
theorem el_lst (h : Ea K tr σ H (ds.map Ag.d)) (hl : ds.length ≤ 100000) : El K (tLst tr) σ H ds := fun H1 e _ q =>
  h H1 e _ fun vs H2 e2 k => by
    have f := agl_fz k
    exact ⟨sz_of (by rw [fzl_len f]; exact hl), fun p hp => q p vs _ (fresh_back e2 hp) (e2.trans (Ex.new hp)) upd_same (fzl_ex (Ex.new hp) f)⟩
theorem atI_of {α : Type} {xs : List α} {i : Nat} {x : α} (h : xs[i]? = some x) : atI xs (i : Int) = some x := atI_nat h
/-- t[i] -/
theorem ed_ixT {i : Nat} (h : Ed K ta σ H (.tuple ds)) (hi : Ev tb σ H (.int (i : Int))) (hd : ds[i]? = some d) : Ed K (tOp (rIxT K) ta tb) σ H d := fun H1 e Q q =>
  h H1 e _ fun v H2 e2 f => by
    obtain ⟨a, xs, rfl, hs, hf⟩ := fz_tupI f
    obtain ⟨w, hw, fw⟩ := fzl_get hf hd
    exact hi H2 (e.trans e2) _ fun H3 e3 => ⟨a, xs, i, w, rfl, rfl, ex_t e3 hs, atI_of hw, q w H3 (e2.trans e3) (fz_ex e3 fw)⟩
/-- xs[i] of a list that stands -/
theorem ed_ixL {i : Nat} {p : Addr} {xs : List V} (h : Ev ta σ H (.ref p)) (hp : SqL K H p xs) (hf : FzL K H ds xs) (hi : Ev tb σ H (.int (i : Int))) (hd : ds[i]? = some d) : Ed K (tOp (rIxL K) ta tb) σ H d := by
  obtain ⟨w, hw, fw⟩ := fzl_get hf hd
  exact ed_ev (ev_op h hi (rv_ixL hp (atI_of hw))) fw
/-- len(t) -/
theorem ev_lenT (h : Ed K ta σ H (.tuple ds)) : Ev (tCB (rLenS K) (tCons ta tNil)) σ H (.int (ds.length : Int)) := fun H1 e Q q =>
  h H1 e _ fun v H2 e2 f => by
    obtain ⟨a, xs, rfl, hs, hf⟩ := fz_tupI f
    refine ⟨a, xs, rfl, .inr hs, ?_⟩
    rw [fzl_len hf]
    exact q H2 e2
/-- tuple(list made on the way) -/
def rTupOf (K : PySem.W.Frag) : List V → Hp → VK → Prop := fun xs H Q => ∃ p ys, xs = [.ref p] ∧ ((SqL K H p ys ∧ ∀ l, H l = none → Q (.ref l) (upd H l (.tup ys))) ∨ (SqT K H p ys ∧ Q (.ref p) H))
theorem ed_tupOf (h : El K ta σ H ds) : Ed K (tCB (rTupOf K) (tCons ta tNil)) σ H (.tuple ds) := fun H1 e Q q =>
  h H1 e _ fun p xs H2 _ e2 h2 f => ⟨p, xs, rfl, .inl ⟨sq_of h2, fun l hl => q (.ref l) _ (e2.trans (Ex.new hl)) (fz_tup upd_same (fzl_ex (Ex.new hl) f))⟩⟩
/-- tuple(xs), xs a list that stands -/
theorem ed_tupOfL {p : Addr} {xs : List V} (h : Ev ta σ H (.ref p)) (hp : SqL K H p xs) (hf : FzL K H ds xs) : Ed K (tCB (rTupOf K) (tCons ta tNil)) σ H (.tuple ds) := fun H1 e Q q =>
  h H1 e _ fun H2 e2 => ⟨p, xs, rfl, .inl ⟨ex_l (e.trans e2) hp, fun l hl => q (.ref l) _ (e2.trans (Ex.new hl)) (fz_tup upd_same (fzl_ex ((e.trans e2).trans (Ex.new hl)) hf))⟩⟩
theorem el_listOfT (h : Ed K ta σ H (.tuple ds)) : El K (tCB (rListS K) (tCons ta tNil)) σ H ds := fun H1 e Q q =>
  h H1 e _ fun v H2 e2 f => by
    obtain ⟨a, xs, rfl, hs, hf⟩ := fz_tupI f
    exact ⟨a, xs, rfl, .inr hs, fun l hl => q l xs _ (fresh_back e2 hl) (e2.trans (Ex.new hl)) upd_same (fzl_ex (Ex.new hl) hf)⟩
/-- all([..]) -/
theorem ev_all {bs : List Bool} (h : El K ta σ H (bs.map PyData.bool)) : Ev (tCB (rAll K) (tCons ta tNil)) σ H (.bl (bs.all id)) := fun H1 e Q q =>
  h H1 e _ fun p xs H2 _ e2 h2 f => by
    have ex : ∀ {bs : List Bool} {xs : List V}, FzL K H2 (bs.map PyData.bool) xs → xs = bs.map V.bl := by
      intro bs
      induction bs with
      | nil => intro xs f; exact fzl_nilI f
      | cons b bs ih =>
        intro xs f
        obtain ⟨v, r, rfl, h1, h2⟩ := fzl_consI f
        rw [fz_blI h1, ih h2]
        rfl
    exact ⟨p, bs, rfl, by rw [← ex f]; exact sq_of h2, q H2 e2⟩
/-- d == e, d != e -/
theorem ev_eqD (h : Ed K ta σ H d) (k : Ed K tb σ H e) (pd : Plain d) (pe : Plain e) : Ev (tOp (rEqD K) ta tb) σ H (.bl (PyData.eqv d e)) := fun H1 e1 Q q =>
  h H1 e1 _ fun v H2 e2 f => k H2 (e1.trans e2) _ fun w H3 e3 g => ⟨d, e, fz_dp _ _ (fz_ex e3 f), fz_dp _ _ g, pd.shaped, pe.shaped, q H3 (e2.trans e3)⟩
theorem ev_neD (h : Ed K ta σ H d) (k : Ed K tb σ H e) (pd : Plain d) (pe : Plain e) : Ev (tOp (rNeD K) ta tb) σ H (.bl (!PyData.eqv d e)) := fun H1 e1 Q q =>
  h H1 e1 _ fun v H2 e2 f => k H2 (e1.trans e2) _ fun w H3 e3 g => ⟨d, e, fz_dp _ _ (fz_ex e3 f), fz_dp _ _ g, pd.shaped, pe.shaped, q H3 (e2.trans e3)⟩
/-- a call -/
def Pr (K : PySem.W.Frag) (sp : Sp) (as : List Ag) (H : Hp) (d : PyData) : Prop := ∀ H1, Ex H H1 → ∀ vs, AgL K H1 as vs → ∀ Q : VK, (∀ v H2, Ex H1 H2 → Fz K H2 d v → Q v H2) → ∀ E : XK, sp vs H1 Q E
theorem ed_call {sp : Sp} {E : XK} {as : List Ag} (h : Ea K tr σ H as) (hs : Pr K sp as H d) : Ed K (tCall sp [] E tr) σ H d := fun H1 e Q q =>
  h H1 e _ fun vs H2 e2 k => by
    rw [List.append_nil]
    exact hs H2 (e.trans e2) vs k Q (fun v H3 e3 f => q v H3 (e2.trans e3) f) E
/-! ### statements -/
variable {Dn : Ends} {tu tw tz : TS} {g : TG}
theorem s_asgD {i : Nat} (h : Ed K te σ H d) (k : ∀ v H1, Ex H H1 → Fz K H1 d v → Dn.nx (σ.set i (some v)) H1) : tAsg te (gName i) Dn σ H := h H (Ex.refl H) _ fun v H1 e f => k v H1 e f
theorem q_asgD {i : Nat} (h : Ed K te σ H d) (k : ∀ v H1, Ex H H1 → Fz K H1 d v → tz Dn (σ.set i (some v)) H1) : tSeq (tAsg te (gName i)) tz Dn σ H := s_asgD (Dn := { Dn with nx := tz Dn }) h k
theorem s_asgE {i : Nat} (h : El K te σ H ds) (k : ∀ p xs H1, H p = none → Ex H H1 → H1 p = some (.lst xs) → FzL K H1 ds xs → Dn.nx (σ.set i (some (.ref p))) H1) : tAsg te (gName i) Dn σ H := h H (Ex.refl H) _ fun p xs H1 hp e h1 f => k p xs H1 hp e h1 f
theorem q_asgE {i : Nat} (h : El K te σ H ds) (k : ∀ p xs H1, H p = none → Ex H H1 → H1 p = some (.lst xs) → FzL K H1 ds xs → tz Dn (σ.set i (some (.ref p))) H1) : tSeq (tAsg te (gName i)) tz Dn σ H := s_asgE (Dn := { Dn with nx := tz Dn }) h k
theorem s_retD (h : Ed K te σ H d) (k : ∀ v H1, Ex H H1 → Fz K H1 d v → Dn.rt v H1) : tRet te Dn σ H := h H (Ex.refl H) _ fun v H1 e f => k v H1 e f
theorem s_retE (h : El K te σ H ds) (k : ∀ p xs H1, H p = none → Ex H H1 → H1 p = some (.lst xs) → FzL K H1 ds xs → Dn.rt (.ref p) H1) : tRet te Dn σ H := h H (Ex.refl H) _ k
theorem s_dropD (h : Ed K te σ H d) (k : ∀ H1, Ex H H1 → Dn.nx σ H1) : tDrop te Dn σ H := h H (Ex.refl H) _ fun _ H1 e _ => k H1 e
theorem q_dropD (h : Ed K te σ H d) (k : ∀ H1, Ex H H1 → tz Dn σ H1) : tSeq (tDrop te) tz Dn σ H := s_dropD (Dn := { Dn with nx := tz Dn }) h k
/-- xs.append(e), e frozen -/
theorem s_appD {l : Addr} {xs : List V} (hl : H l = some (.lst xs)) (ha : Ev ta σ H (.ref l)) (h : Ed K te σ H d) (hz : xs.length < 100000) (k : ∀ v H1, Ex H H1 → Fz K H1 d v → Dn.nx σ (upd H1 l (.lst (xs ++ [v])))) :
    tDrop (tBM K "list" rAppend ta (tCons te tNil)) Dn σ H := ha H (Ex.refl H) _ fun H1 e1 =>
  ⟨Or.inl ⟨rfl, xs, sq_of (e1 l _ hl)⟩, h H1 e1 _ fun v H2 e2 f => ⟨l, xs, v, rfl, rfl, e2 l _ (e1 l _ hl), sz_lt hz, k v H2 (e1.trans e2) f⟩⟩
theorem q_appD {l : Addr} {xs : List V} (hl : H l = some (.lst xs)) (ha : Ev ta σ H (.ref l)) (h : Ed K te σ H d) (hz : xs.length < 100000) (k : ∀ v H1, Ex H H1 → Fz K H1 d v → tz Dn σ (upd H1 l (.lst (xs ++ [v])))) :
    tSeq (tDrop (tBM K "list" rAppend ta (tCons te tNil))) tz Dn σ H := s_appD (Dn := { Dn with nx := tz Dn }) hl ha h hz k
/-- xs.extend([..]) -/
theorem s_extE {l : Addr} {xs : List V} (hl : H l = some (.lst xs)) (ha : Ev ta σ H (.ref l)) (h : El K te σ H ds) (hz : xs.length + ds.length ≤ 100000) (k : ∀ zs H1, Ex H H1 → FzL K H1 ds zs → Dn.nx σ (upd H1 l (.lst (xs ++ zs)))) :
    tDrop (tBM K "list" rExtend ta (tCons te tNil)) Dn σ H := ha H (Ex.refl H) _ fun H1 e1 =>
  ⟨Or.inl ⟨rfl, xs, sq_of (e1 l _ hl)⟩, h H1 e1 _ fun b zs H2 _ e2 hb f => ⟨l, b, xs, zs, rfl, rfl, e2 l _ (e1 l _ hl), hb, sz_of (by rw [fzl_len f]; exact hz), k zs H2 (e1.trans e2) f⟩⟩
theorem q_extE {l : Addr} {xs : List V} (hl : H l = some (.lst xs)) (ha : Ev ta σ H (.ref l)) (h : El K te σ H ds) (hz : xs.length + ds.length ≤ 100000) (k : ∀ zs H1, Ex H H1 → FzL K H1 ds zs → tz Dn σ (upd H1 l (.lst (xs ++ zs)))) :
    tSeq (tDrop (tBM K "list" rExtend ta (tCons te tNil))) tz Dn σ H := s_extE (Dn := { Dn with nx := tz Dn }) hl ha h hz k
/-- a, b = e1, e2 -/
theorem s_par {i j : Nat} {a b : Ag} (h : Ea K tr σ H [a, b]) (k : ∀ v w H1, Ex H H1 → AgO K H1 a v → AgO K H1 b w → Dn.nx ((σ.set i (some v)).set j (some w)) H1) : tPar i j tr Dn σ H := h H (Ex.refl H) _ fun vs H1 e1 q => by
  obtain ⟨v, r, rfl, hv, w, r2, rfl, hw, e2⟩ := q
  rw [show r2 = [] from e2]
  exact ⟨v, w, rfl, k v w H1 e1 hv hw⟩
theorem q_par {i j : Nat} {a b : Ag} (h : Ea K tr σ H [a, b]) (k : ∀ v w H1, Ex H H1 → AgO K H1 a v → AgO K H1 b w → tz Dn ((σ.set i (some v)).set j (some w)) H1) : tSeq (tPar i j tr) tz Dn σ H := s_par (Dn := { Dn with nx := tz Dn }) h k
/-! ### loops -/
/-- for x in t, t a tuple -/
theorem s_forTd {tl : TE} (h : Ed K tl σ H (.tuple ds)) (k : ∀ H1, Ex H H1 → ∃ Pv : Nat → L2.St → Hp → Prop, Pv 0 σ H1 ∧ (∀ i σ' H', Pv i σ' H' → TEx H1 H') ∧
    (∀ i x d σ' H', ds[i]? = some d → Fz K H' d x → Pv i σ' H' → g x σ' H' fun σ2 H2 => tu { Dn with nx := Pv (i + 1), ct := Pv (i + 1), bk := Dn.nx } σ2 H2) ∧ ∀ σ' H', Pv ds.length σ' H' → Dn.nx σ' H') : tFor (iTup K tl) g tu Dn σ H :=
  h H (Ex.refl H) _ fun v H1 e f => by
    obtain ⟨a, xs, rfl, hs, hf⟩ := fz_tupS f
    obtain ⟨Pv, h0, hT, hb, hd⟩ := k H1 e
    refine ⟨a, rfl, ⟨xs, st_of hs⟩, for_tup Pv h0 (fun i σ' H' _ p => tex_t (hT i σ' H' p) hs) (fun i x σ' H' hx p => ?_) fun σ' H' p => hd σ' H' (by rw [fzl_len hf] at p; exact p)⟩
    obtain ⟨d, hd', fd⟩ := fzl_getV hf hx
    exact hb i x d σ' H' hd' (Fz.mono (hT i σ' H' p) _ _ fd) p
theorem q_forTd {tl : TE} (h : Ed K tl σ H (.tuple ds)) (k : ∀ H1, Ex H H1 → ∃ Pv : Nat → L2.St → Hp → Prop, Pv 0 σ H1 ∧ (∀ i σ' H', Pv i σ' H' → TEx H1 H') ∧
    (∀ i x d σ' H', ds[i]? = some d → Fz K H' d x → Pv i σ' H' → g x σ' H' fun σ2 H2 => tu { Dn with nx := Pv (i + 1), ct := Pv (i + 1), bk := tz Dn } σ2 H2) ∧ ∀ σ' H', Pv ds.length σ' H' → tz Dn σ' H') : tSeq (tFor (iTup K tl) g tu) tz Dn σ H :=
  s_forTd (Dn := { Dn with nx := tz Dn }) h k
/-! ### comprehensions: out i is what the first i turns have given -/
def CwD (K : PySem.W.Frag) (H : Hp) (out : Nat → List PyData) (Dl : Addr) (i : Nat) (H' : Hp) : Prop := H Dl = none ∧ Ex H H' ∧ ∃ acc, H' Dl = some (.lst acc) ∧ FzL K H' (out i) acc
/-- one turn's test and element -/
def Turn1 (K : PySem.W.Frag) (tt : TT) (te : TE) (σ2 : L2.St) (H : Hp) (out : Nat → List PyData) (i : Nat) : Prop :=
  ∃ b, EvT tt σ2 H b ∧ (b = true → ∃ d, Ed K te σ2 H d ∧ out (i + 1) = out i ++ [d]) ∧ (b = false → out (i + 1) = out i)
theorem cwd_turn {H H' : Hp} {out : Nat → List PyData} {Dl : Addr} {i : Nat} {σ2 : L2.St} {tt : TT} (p : CwD K H out Dl i H') (hi : (out i).length < 100000) (h : ∀ H3, Ex H H3 → Ex H' H3 → Turn1 K tt te σ2 H3 out i) :
    ∀ H4, Ex H' H4 → tt σ2 H4 fun b H3 => if b = true then te σ2 H3 fun y H4 => ∃ acc, H4 Dl = some (.lst acc) ∧ acc.length < sizeLine ∧ CwD K H out Dl (i + 1) (upd H4 Dl (.lst (acc ++ [y]))) else CwD K H out Dl (i + 1) H3 := by
  intro Hs es
  obtain ⟨p1, p2, acc, p3, p4⟩ := p
  obtain ⟨b, hb, h1, h2⟩ := h Hs (p2.trans es) es
  refine hb Hs (Ex.refl Hs) _ fun H3 e3 => ?_
  cases b with
  | true =>
    obtain ⟨d, hd, eo⟩ := h1 rfl
    show te σ2 H3 fun y H4 => ∃ acc, H4 Dl = some (.lst acc) ∧ acc.length < sizeLine ∧ CwD K H out Dl (i + 1) (upd H4 Dl (.lst (acc ++ [y])))
    refine hd H3 e3 _ fun v H4 e4 f => ?_
    have h4 : H4 Dl = some (.lst acc) := e4 _ _ (e3 _ _ (es _ _ p3))
    refine ⟨acc, h4, sz_lt (by rw [fzl_len p4]; exact hi), p1, Ex.mut (((p2.trans es).trans e3).trans e4) p1, acc ++ [v], upd_same, ?_⟩
    rw [eo]
    have tx : TEx H4 (upd H4 Dl (.lst (acc ++ [v]))) := tex_lst h4
    exact fzl_append (FzL.mono tx _ _ (fzl_ex ((es.trans e3).trans e4) p4)) (fzl_cons (Fz.mono tx _ _ f) fzl_nil)
  | false =>
    show CwD K H out Dl (i + 1) H3
    refine ⟨p1, (p2.trans es).trans e3, acc, e3 _ _ (es _ _ p3), ?_⟩
    rw [h2 rfl]
    exact fzl_ex (es.trans e3) p4
/-- over a tuple, the target a name -/
theorem el_lcTd {tl : TE} {j : Nat} {vs : List Nat} {tt : TT} (out : Nat → List PyData) (h : Ed K tl σ H (.tuple ds)) (h0 : out 0 = []) (hz : ∀ i, i < ds.length → (out i).length < 100000) (hw : ∀ x, wipe ((wipe σ vs).set j (some x)) vs = wipe σ vs)
    (hs : ∀ (i : Nat) (x : V) d H1, Ex H H1 → ds[i]? = some d → Fz K H1 d x → Turn1 K tt te ((wipe σ vs).set j (some x)) H1 out i) :
    El K (tLc (iTup K tl) (gName j) tt te vs) σ H (out ds.length) := fun H0 e Q q => h H0 e _ fun v H1 e1 f => by
  obtain ⟨a, xs, rfl, hx, hf⟩ := fz_tupI f
  refine ⟨a, rfl, ⟨xs, hx⟩, fun Dl hD => lc_tup (xs := xs) (CwD K H1 out Dl) ⟨hD, Ex.new hD, [], upd_same, by rw [h0]; exact fzl_nil⟩ (fun i H' _ p => ex_t p.2.1 hx) (fun i x H' hi p => ?_) (fun H' p => ?_)⟩
  · obtain ⟨d, hd, fd⟩ := fzl_getV hf hi
    exact ⟨hw x, cwd_turn p (hz i (by have := (List.getElem?_eq_some_iff.mp hd).1; omega)) (fun H3 e3 _ => hs i x d H3 ((e.trans e1).trans e3) hd (fz_ex e3 fd)) H' (Ex.refl _)⟩
  · obtain ⟨p1, p2, acc, p3, p4⟩ := p
    rw [fzl_len hf] at p4
    exact q Dl acc H' (fresh_back e1 p1) (e1.trans p2) p3 p4
/-- over range(n) -/
theorem el_lcRd {ta : TA} {j : Nat} {vs : List Nat} {n : Nat} {tt : TT} (out : Nat → List PyData) (h : EvA ta σ H [.int (n : Int)]) (hn : n ≤ 40000) (h0 : out 0 = []) (hz : ∀ i, i < n → (out i).length < 100000) (hw : ∀ x, wipe ((wipe σ vs).set j (some x)) vs = wipe σ vs)
    (hs : ∀ (i : Nat) H1, Ex H H1 → i < n → Turn1 K tt te ((wipe σ vs).set j (some (.int (i : Int)))) H1 out i) :
    El K (tLc (iRng1 ta) (gName j) tt te vs) σ H (out n) := fun H0 e Q q => h H0 e _ fun H1 e1 => ⟨n, rfl, by omega, by omega, fun Dl hD =>
  lc_range (lo := 0) (n := n) (CwD K H1 out Dl) ⟨hD, Ex.new hD, [], upd_same, by rw [h0]; exact fzl_nil⟩ (fun i H' hi p => by
    have e0 : (0 : Int) + (i : Int) = (i : Int) := Int.zero_add _
    show wipe ((wipe σ vs).set j (some (.int ((0 : Int) + (i : Int))))) vs = wipe σ vs ∧ tt ((wipe σ vs).set j (some (.int ((0 : Int) + (i : Int))))) H' fun b H3 => if b = true then te ((wipe σ vs).set j (some (.int ((0 : Int) + (i : Int))))) H3 fun y H4 => ∃ acc, H4 Dl = some (.lst acc) ∧ acc.length < sizeLine ∧ CwD K H1 out Dl (i + 1) (upd H4 Dl (.lst (acc ++ [y]))) else CwD K H1 out Dl (i + 1) H3
    rw [e0]
    exact ⟨hw _, cwd_turn p (hz i hi) (fun H3 e3 _ => hs i H3 ((e.trans e1).trans e3) hi) H' (Ex.refl _)⟩) (fun H' p => by
    obtain ⟨p1, p2, acc, p3, p4⟩ := p
    exact q Dl acc H' (fresh_back e1 p1) (e1.trans p2) p3 p4)⟩
/-- over a list of frozen data that stands -/
theorem el_lcLd {tl : TE} {j : Nat} {vs : List Nat} {tt : TT} {a : Addr} {xs : List V} (out : Nat → List PyData) (h : Ev tl σ H (.ref a)) (hx : SqL K H a xs) (hf : FzL K H ds xs) (h0 : out 0 = []) (hz : ∀ i, i < ds.length → (out i).length < 100000) (hw : ∀ x, wipe ((wipe σ vs).set j (some x)) vs = wipe σ vs)
    (hs : ∀ (i : Nat) (x : V) d H1, Ex H H1 → ds[i]? = some d → Fz K H1 d x → Turn1 K tt te ((wipe σ vs).set j (some x)) H1 out i) :
    El K (tLc (iList K tl) (gName j) tt te vs) σ H (out ds.length) := fun H0 e Q q => h H0 e _ fun H1 e1 => by
  refine ⟨a, rfl, ⟨xs, ex_l (e.trans e1) hx⟩, fun Dl hD => lc_list (xs := xs) (CwD K H1 out Dl) ⟨hD, Ex.new hD, [], upd_same, by rw [h0]; exact fzl_nil⟩ (fun i H' _ p => ex_l ((e.trans e1).trans p.2.1) hx) (fun i x H' hi p => ?_) (fun H' p => ?_)⟩
  · obtain ⟨d, hd, fd⟩ := fzl_getV hf hi
    exact ⟨hw x, cwd_turn p (hz i (by have := (List.getElem?_eq_some_iff.mp hd).1; omega)) (fun H3 e3 _ => hs i x d H3 ((e.trans e1).trans e3) hd (fz_ex ((e.trans e1).trans e3) fd)) H' (Ex.refl _)⟩
  · obtain ⟨p1, p2, acc, p3, p4⟩ := p
    rw [fzl_len hf] at p4
    exact q Dl acc H' (fresh_back e1 p1) (e1.trans p2) p3 p4
theorem turn_all {tt : TT} {σ2 : L2.St} {out : Nat → List PyData} {i : Nat} (ht : EvT tt σ2 H true) (h : Ed K te σ2 H d) (ho : out (i + 1) = out i ++ [d]) : Turn1 K tt te σ2 H out i := ⟨true, ht, fun _ => ⟨d, h, ho⟩, fun z => nomatch z⟩
theorem et_yes : EvT tYes σ H true := fun H1 _ _ q => q H1 (Ex.refl H1)
end
end WT
/-! Toolkit 3: rules that the layer lacks: ** of great numbers, min of data, repr of data, enumerate(tuple), len(set(tuple of ints)). -/
namespace WT
open PySem PySem.Spec PyProof.Rows L2 Evl
section
variable {X : Cx}
/-- ** of great numbers -/
def CPowW (i j : Int) : Prop := 0 ≤ j ∧ (Builtin.Int.intBits i : Int) * j ≤ 2 ^ 27
theorem op_powW : OpR X (binaryOp .Pow) (rI CPowW fun i j => .int (i ^ j.toNat)) := opI fun _ _ _ _ _ _ _ hc q => pow_int hc.1 hc.2 q
theorem vals_getU : ∀ {xs : List V} {us : List Value} {i : Nat} {u : Value}, Vals xs us → us[i]? = some u → ∃ x, xs[i]? = some x ∧ RelV x u
  | _, _, _, _, .nil, e => by simp at e
  | _, _, 0, _, .cons r _, e => by
    cases (Option.some.inj e)
    exact ⟨_, rfl, r⟩
  | _, _, i + 1, u, .cons _ t, e => vals_getU (i := i) (u := u) t (by simpa using e)
/-- min(list of data) -/
def rMinD (K : PySem.W.Frag) : List V → Hp → VK → Prop := fun vs H Q => ∃ (a : Addr) (xs : List V) (d : PyData) (ds : List PyData), vs = [.ref a] ∧ SqL K H a xs ∧ FzL K H (d :: ds) xs ∧ PySem.W.AlikeAll (d :: ds) ∧
  PyData.depthAll (d :: ds) ≤ 50 ∧ ∀ v, Fz K H (PySem.W.minD d ds) v → Q v H
theorem cr_minD (hc : X.calm = true) (hu : X.A.units + 64 < cLine) : CallR X (.builtin "min") (rMinD X.K) := by
  intro pins s σ H vs us Q I r h
  obtain ⟨a, xs, d, ds, rfl, hq, hf, hal, hdp, q⟩ := h
  obtain ⟨u, rfl, ru⟩ := vals1 r
  cases (show u = Value.ref a from ru)
  obtain ⟨its, rv, pl, hz⟩ := I.list hq
  obtain ⟨as, hr⟩ := Dp.readsAll I (d :: ds) xs its (fzl_dp _ _ hf) rv
  refine PySem.W.min_list_data (I.ok.hd hc) pl.isList (by simpa using hr) hal (by omega) fun i v h' tk bs hi hm hk => ?_
  have hi' : its[i]? = some v := by simpa using hi
  obtain ⟨x, hx, rx⟩ := vals_getU rv hi'
  obtain ⟨e, he, fe⟩ := fzl_getV hf hx
  obtain ⟨cs, hre⟩ := Dp.reads I e x v (fz_dp _ _ fe) rx
  have ee : PySem.W.minD d ds = e := (reads_det (fun b o z _ => hk b o z) hre hm).1
  exact ⟨x, H, I.kept (t' := tk) hk, rx, q x (by rw [ee]; exact fe)⟩
/-- repr(data); nothing is being written out around -/
def rReprD (K : PySem.W.Frag) : List V → Hp → VK → Prop := fun vs H Q => ∃ (x : V) (d : PyData), vs = [x] ∧ Fz K H d x ∧ d.showable = true ∧ d.depth ≤ 50 ∧ d.shown.length ≤ sizeLine ∧ Q (.str d.shown) H
theorem fz_noDict {K : PySem.W.Frag} {H : Hp} : ∀ (d : PyData) (v : V), Fz K H d v → d.hasDict = false
  | .none, _, _ => by simp only [PyData.hasDict]
  | .bool _, _, _ => by simp only [PyData.hasDict]
  | .int _, _, _ => by simp only [PyData.hasDict]
  | .str _, _, _ => by simp only [PyData.hasDict]
  | .tuple ds, v, h => by
    obtain ⟨a, xs, _, _, hf⟩ := fz_tupI h
    simp only [PyData.hasDict]
    exact go ds xs hf
  | .list _, _, h => by simp only [Fz] at h
  | .dict _, _, h => by simp only [Fz] at h
where go : ∀ (ds : List PyData) (xs : List V), FzL K H ds xs → PyData.hasDictAll ds = false
  | [], _, _ => by simp only [PyData.hasDictAll]
  | d :: ds, _, h => by
    obtain ⟨v, r, _, h1, h2⟩ := fzl_consI h
    simp only [PyData.hasDictAll, fz_noDict d v h1, go ds r h2, Bool.or_false]
theorem call_reprD (hg : X.A.guards = some []) (hu : X.A.units + 64 < cLine) : CallR X (.builtin "repr") (rReprD X.K) := by
  intro pins s σ H vs us Q I r h
  obtain ⟨x, d, rfl, hf, hs, hd, hz, q⟩ := h
  obtain ⟨u, rfl, ru⟩ := vals1 r
  cases d with
  | none =>
    cases (fz_nonI hf)
    cases (show u = Value.none from ru)
    simp only [PyData.shown] at q
    exact PySem.P.repr_of_none ⟨.str _, H, I.tok _, ⟨_, rfl⟩, q⟩
  | bool b =>
    cases (fz_blI hf)
    cases (show u = Value.bool b from ru)
    simp only [PyData.shown] at q
    exact PySem.P.repr_of_bool ⟨.str _, H, I.tok _, ⟨_, rfl⟩, q⟩
  | int i =>
    cases (fz_intI hf)
    obtain ⟨t, rfl⟩ := ru
    simp only [PyData.shown] at q
    exact PySem.P.repr_of_int (by simpa [PyData.showable] using hs) ⟨.str _, H, I.tok _, ⟨_, rfl⟩, q⟩
  | str i =>
    cases (fz_strI hf)
    obtain ⟨t, rfl⟩ := ru
    simp only [PyData.shown] at q hz
    exact PySem.P.repr_of_str ⟨.str _, H, I.tok _, ⟨_, rfl⟩, q⟩ hz
  | tuple ds =>
    obtain ⟨a, xs, rfl, hq, hfl⟩ := fz_tupI hf
    cases (show u = Value.ref a from ru)
    obtain ⟨as, hr⟩ := Dp.reads I (.tuple ds) (.ref a) (.ref a) (fz_dp _ _ hf) rfl
    refine repr_of_reads' hr hs (fun z => ?_) hg (by omega) (fun _ _ e => e) (fun h' t tk hk => ⟨.str _, H, I.kept (t' := tk) hk, ⟨_, rfl⟩, q⟩) hz
    rw [fz_noDict _ _ hf] at z
    cases z
  | list _ => simp only [Fz] at hf
  | dict _ => simp only [Fz] at hf
/-! ### enumerate(t), t a tuple -/
set_option maxHeartbeats 8000000 in
theorem meets_enum1 {v : Value} {o : Obj} {G : Heap → Prop} (B : Begins v o G) :
    Meets (Builtin.«enumerate.__new__» ⟨[.type "enumerate", v], []⟩) (fun _ R s => G s.heap ∧
      R (.ok (.ret (.ref (s.heap.push o).objs.size))) { s with heap := (s.heap.push o).push { cls := .type "enumerate", data := .fields #[.none, .bool false, .ref s.heap.objs.size, rawInt 0, .none, .none] } }) :=
  .of_wp fun prog w A R s h => by
    obtain ⟨hp, gs, dr, tks, oss⟩ := s
    obtain ⟨g1, h⟩ := h
    have hsub := sub_enumerate
    have q1 : ∀ {A' : Around} {E : Value → Shared → Prop} {Q : Value → Shared → Prop}, Q (.ref hp.objs.size) ⟨hp.push o, gs, dr, tks, oss⟩ → wpAny (model prog w) A' (pyIter v) Q E ⟨hp, gs, dr, tks, oss⟩ :=
      fun z => B.iter prog w _ _ ⟨hp, gs, dr, tks, oss⟩ _ g1 z
    wp_walk using q1
    refine wpAny_stack_any fun st => wpAny_pure ?_
    split
    · rename_i c _ _ _ _ _
      cases (c == Value.type "enumerate")
      all_goals wp_walk using q1
      all_goals exact ⟨_, rfl, h⟩
    · wp_walk using q1
      exact ⟨_, rfl, h⟩
theorem enum1_made {prog : Program} {w : World} {A : Around} {E : Value → Shared → Prop} {s : Shared} {v : Value} {o : Obj} {G : Heap → Prop} {Q : Value → Shared → Prop} (B : Begins v o G) (g1 : G s.heap)
    (k : ∀ h', IsEnum h' (s.heap.objs.size + 1) s.heap.objs.size 0 .none → h'.get? s.heap.objs.size = some o → (∀ b u, s.heap.get? b = some u → h'.get? b = some u) → Q (.ref (s.heap.objs.size + 1)) { s with heap := h' }) :
    wpAny (model prog w) A (call (.type "enumerate") [v]) Q E s := by
  refine callType_new F.called_enumerate (by decide) (F.typeCall_enumerate_1 _) (F.newCall_enumerate_1 _) (fun obj => F.args_object_init_2 obj _) F.entry_enumerate_new (meets_enum1 B) ⟨g1, ?_⟩
  have sz : (s.heap.push o).objs.size = s.heap.objs.size + 1 := Heap.size_push ..
  show _ ∧ _
  rw [sz]
  have ie : IsEnum ((s.heap.push o).push { cls := .type "enumerate", data := .fields #[.none, .bool false, .ref s.heap.objs.size, rawInt 0, .none, .none] }) (s.heap.objs.size + 1) s.heap.objs.size 0 .none := by
    have z := Heap.get?_push_size (s.heap.push o) (o := { cls := .type "enumerate", data := .fields #[.none, .bool false, .ref s.heap.objs.size, rawInt 0, .none, .none] }) rfl
    rw [sz] at z
    exact z
  exact ⟨⟨_, ie, rfl⟩, k _ ie (Heap.get?_push_of_some _ (Heap.get?_push_size _ B.free)) fun b u z => Heap.get?_push_of_some _ (Heap.get?_push_of_some _ z)⟩
/-- the tuple at a, each item in a new pair with its place -/
def IteT (K : PySem.W.Frag) (a : Addr) : It :=
  ⟨fun i H => ∃ (xs : List V) (x : V), SqT K H a xs ∧ xs[i]? = some x,
    fun i H v H' => ∃ T x, v = .ref T ∧ H T = none ∧ H' = upd H T (.tup [.int (i : Nat), x]) ∧ ∀ xs, SqT K H a xs → xs[i]? = some x,
    fun i H => ∃ xs : List V, SqT K H a xs ∧ xs.length = i⟩
theorem turn_enumT {P : Program} {w : World} {K : PySem.W.Frag} {elts : List Expr} {kk : Nat} {tpos : Pos} (a e it : Addr) (hne : e ≠ it) (hea : a ≠ e) (hia : a ≠ it) :
    Turn P w K (.Tuple elts kk tpos) (IteT K a) [e, it] e (fun i h => (∃ old, IsEnum h e it ((i : Nat) : Int) old) ∧ h.IsTupleIter it a i) where
  mem := List.mem_cons_self
  obj := fun i h st b hb => by
    obtain ⟨⟨old, ie⟩, ⟨o, ho, _, hd⟩⟩ := st
    rcases List.mem_cons.mp hb with z | hb
    · rw [z]; exact ⟨_, ie, fun v q => nomatch q⟩
    · rw [List.mem_singleton.mp hb]; exact ⟨o, ho, fun v q => by rw [hd] at q; cases q⟩
  keep := fun i h h' st k => by
    obtain ⟨⟨old, ie⟩, hi⟩ := st
    exact ⟨⟨old, k e (by simp) _ ie⟩, hi.at fun o q => k it (by simp) o q⟩
  item := by
    intro X hP hw hK hc i pins s σ H E I hf st hg
    subst hP hw hK
    obtain ⟨⟨old, ie⟩, hit⟩ := st
    obtain ⟨xs, x, hq, hx⟩ := hg
    obtain ⟨its, rv, p, hz⟩ := I.tuple hq
    obtain ⟨u, hu, ru⟩ := rv.get hx
    have hel : e < s.heap.objs.size := Heap.lt_size ie
    have hlen : i < its.toArray.size := by
      have := (List.getElem?_eq_some_iff.mp hu).1
      simpa using this
    refine wpAny_pyNext_enum_itemD (D := Draws.tuple (A := X.A.in1) (I.ok.hd hc) it a hia its.toArray) ie ⟨hit, p⟩ hlen hne (by simp [hne, Ne.symm hea]) fun y h' tk hy ho hit' hT hsz hk => ?_
    have ey : y = u := by
      have z : its.toArray[i]? = some y := hy
      have z' : its[i]? = some y := by simpa using z
      rw [hu] at z'
      exact (Option.some.inj z').symm
    subst ey
    refine ⟨_, rfl, wpAny_letOwnedTupleGo_enum (s := { s with heap := h', toks := tk + 1 }) ho fun h'' he' sb => ?_⟩
    have hT2 : h''.get? s.heap.objs.size = some { cls := .type "tuple", data := .seq #[.int i tk, y] } := (sb.2 _ (Nat.ne_of_gt hel)).trans hT
    have new : ObjOk X.prog X.w (upd H s.heap.objs.size (.tup [.int (i : Nat), x])) h'' s.heap.objs.size (.tup [.int (i : Nat), x]) :=
      ⟨by show 2 ≤ sizeLine; decide, [.int i tk, y], .cons ⟨_, rfl⟩ (.cons ru .nil), ⟨_, hT2, rfl, _, rfl⟩⟩
    have I1 : Inv X pins σ (upd H s.heap.objs.size (.tup [.int (i : Nat), x])) { s with heap := h'', toks := tk + 1 } :=
      I.turnedNew (ch := [e, it]) (fun b ob hb q => (sb.2 b (fun z => hb (by simp [z]))).trans (hk b ob (fun z => hb (by simp [z])) (fun z => hb (by simp [z])) q)) hf (Nat.le_refl _) new
    refine ⟨.ref s.heap.objs.size, _, I1, rfl, ⟨_, x, rfl, I.hok.fresh (Nat.le_refl _), rfl, fun ys hy => by rw [I.tuple_inj hy hq]; exact hx⟩, ⟨⟨y, ?_⟩, hit'.1.at fun o q => (sb.2 it (Ne.symm hne)).trans q⟩, fun b hb => ?_⟩
    · have e1 : ((i + 1 : Nat) : Int) = (i : Int) + 1 := by omega
      rw [e1]
      exact he'
    · have hb' : b < s.heap.objs.size := by
        rcases List.mem_cons.mp hb with z | z
        · rw [z]; exact hel
        · rw [List.mem_singleton.mp z]; obtain ⟨_, q, _⟩ := hit; exact Heap.lt_size q
      rw [upd_ne (Nat.ne_of_lt hb')]
      exact (hf b hb).1
  done := by
    intro X hP hw hK hc i pins s σ H E I hf st hg
    subst hP hw hK
    obtain ⟨⟨old, ie⟩, hit⟩ := st
    obtain ⟨xs, hq, hx⟩ := hg
    obtain ⟨its, rv, p, hz⟩ := I.tuple hq
    obtain ⟨f0, f1, f2, f3, f4, f5⟩ := hf it (by simp)
    have hl := rv.length
    have en : its.toArray.size = i := by
      rw [List.size_toArray]
      omega
    subst en
    exact wpAny_pyNext_enum_endD (D := Draws.tuple (A := X.A.in1) (I.ok.hd hc) it a hia its.toArray) ie ⟨hit, p⟩ fun h' eb => ⟨rfl, I.turned (t' := s.toks) (fun b o hb q => eb b o hb q) f0 f1 f3 f4 f5⟩
  self := fun A i s Q E st h => by
    obtain ⟨⟨_, ie⟩, _⟩ := st
    exact wpAny_pyIter_enum ie h
def iEnumT (K : PySem.W.Frag) (ta : TA) : TI := fun σ H R => ta σ H fun vs H1 => ∃ (a : Addr) (xs : List V), vs = [.ref a] ∧ SqT K H1 a xs ∧ R (IteT K a) H1
theorem pi_enumT {e : Expr} {ta : TA} {p pos tpos : Pos} {elts : List Expr} {kk : Nat} (hg : Gl X "enumerate") (hm : X.mg "enumerate" = none) (ha : PA X [e] ta) (hs : starEach [e] X.env = [(false, eval e X.env)] := by rfl) :
    PI X (.Tuple elts kk tpos) (.Call (.Name "enumerate" p) [e] [] pos) (iEnumT X.K ta) := by
  refine ⟨fun pins s σ H R I h => ?_⟩
  refine Call_ (ld_blt I hg hm boot_enumerate (PyProof.Rows.callWith_type1 (thn (ha.run pos pins s σ H _ I h) fun us s1 ⟨vs, H1, I1, r1, q1⟩ => ?_) hs rfl))
  obtain ⟨a, xs, rfl, hq, q⟩ := q1
  obtain ⟨u, rfl, ru⟩ := vals1 r1
  cases (show u = Value.ref a from ru)
  obtain ⟨its, rv, p', hz⟩ := I1.tuple hq
  have hlt : a < s1.heap.objs.size := by
    obtain ⟨o, ho, _⟩ := p'
    exact Heap.lt_size ho
  refine enum1_made (begins_tuple a its.toArray) p' fun h' ie hit hk => wpAny_pyIter_enum ie ?_
  have I2 : Inv X pins σ H1 { s1 with heap := h' } := I1.kept (t' := s1.toks) hk
  refine ⟨s1.heap.objs.size + 1, [s1.heap.objs.size + 1, s1.heap.objs.size], _, _, H1, rfl, I2, turn_enumT a (s1.heap.objs.size + 1) s1.heap.objs.size (Nat.succ_ne_self _) (Nat.ne_of_lt (Nat.lt_succ_of_lt hlt)) (Nat.ne_of_lt hlt), ⟨⟨.none, ie⟩, ⟨_, hit, rfl, rfl⟩⟩, fun b hb => ?_, q⟩
  have hle : s1.heap.objs.size ≤ b := by
    rcases List.mem_cons.mp hb with z | z
    · rw [z]; exact Nat.le_succ _
    · rw [List.mem_singleton.mp z]; exact Nat.le_refl _
  exact I1.fpOk hle (I1.hok.fresh hle)
theorem walk_enumT {K : PySem.W.Frag} {a : Addr} {xs : List V} : Walk (IteT K a) xs.length (fun H => SqT K H a xs) (YPair (fun i => some (.int (i : Nat))) (fun i => xs[i]?)) := by
  refine ⟨fun i _ hi q => ⟨xs, xs[i], q, by simp [hi]⟩, fun _ q => ⟨xs, q, rfl⟩, fun i H v H' _ q y => ?_⟩
  obtain ⟨T, x, h1, h2, h3, h4⟩ := y
  exact ⟨T, .int (i : Nat), x, h1, h2, h3, rfl, h4 xs q⟩
theorem walk_zipT {K : PySem.W.Frag} {a b : Addr} {xs ys : List V} (hn : xs.length = ys.length) : Walk (RZ.ItzT K a b) xs.length (fun H => SqT K H a xs ∧ SqT K H b ys) (YPair (fun i => xs[i]?) (fun i => ys[i]?)) := by
  refine ⟨fun i _ hi q => ?_, fun _ q => ⟨xs, ys, q.1, q.2, .inl (Nat.le_refl _)⟩, fun i H v H' _ q y => ?_⟩
  · exact ⟨xs, ys, xs[i], ys[i]'(by omega), q.1, q.2, by simp [hi], by simp [show i < ys.length by omega]⟩
  · obtain ⟨T, x, z, h1, h2, h3, h4, h5⟩ := y
    exact ⟨T, x, z, h1, h2, h3, h4 xs q.1, h5 ys q.2⟩
/-! ### len(set(t)), t a tuple of ints -/
def tLenSetT (K : PySem.W.Frag) (ta : TE) : TE := fun σ H Q => ta σ H fun x H1 => ∃ (a : Addr) (ns : List Int), x = .ref a ∧ SqT K H1 a (ns.map V.int) ∧ ns.length ≤ 1000 ∧ ∀ l : List Int, l.Nodup → (∀ k, k ∈ l ↔ k ∈ ns) → Q (.int (l.length : Int)) H1
theorem pe_lenSetT {a : Expr} {ta : TE} {p p2 q pos : Pos} (hg : Gl X "len") (hm : X.mg "len" = none) (hg2 : Gl X "set") (hm2 : X.mg "set" = none) (ha : PE X a ta) (hc : X.calm = true := by rfl)
    (na : starEach [a] X.env = (false, eval a X.env) :: starEach [] X.env := by rfl) : PE X (.Call (.Name "len" p) [.Call (.Name "set" p2) [a] [] q] [] pos) (tLenSetT X.K ta) := by
  refine ⟨fun pins s σ H Q I h => ?_⟩
  refine Call_ (ld_blt I hg hm boot_len ?_)
  refine PyProof.Rows.callWith_builtin1 (PyProof.Rows.args_cons ?_ rfl) rfl rfl
  refine Call_ (ld_blt I hg2 hm2 boot_set ?_)
  refine PyProof.Rows.callWith_type1 (PyProof.Rows.args_cons (thn (ha.run pins s σ H _ I h) fun v s1 ⟨x, H1, I1, r1, q1⟩ => PyProof.Rows.args_nil ?_) na) na rfl
  obtain ⟨l, ns, rfl, hq, hl, k⟩ := q1
  cases (show v = Value.ref l from r1)
  obtain ⟨its, r, pt, hz⟩ := I1.tuple hq
  refine call_set_tupI ns (I1.ok.hd hc) pt (by simpa using intsAre_of r) (Nat.lt_of_le_of_lt (Nat.succ_le_succ hl) (by decide)) fun h' tk c hS hc' hk => ?_
  refine PyProof.Rows.args_nil ?_
  obtain ⟨o, es, ep, t, ho, hex, hd, _, hnd, hmem, _, hfit, hn, _⟩ := hS
  have I2 : Inv X pins σ H1 { s1 with heap := h', toks := tk } := I1.kept (t' := tk) hk
  have hlen : (es.toList.map keyOf).length = es.size := by rw [List.length_map, Array.length_toList]
  have e1 := k (es.toList.map keyOf) hnd fun j => by rw [← hmem j]; simp
  rw [hlen] at e1
  exact call_len_set ho hex hd hfit (by omega) ⟨.int es.size, H1, I2.tok _, ⟨_, rfl⟩, e1⟩
end
end WT
/-! Toolkit 4: loops over enumerate, zip; lists of lists. -/
namespace WT
open PySem PySem.Spec PyProof.Rows L2 Evl
section
variable {K : PySem.W.Frag} {σ : L2.St} {H H' : Hp} {ta tb tc te tl : TE} {tr : TA} {t u : TT} {d e : PyData} {ds es : List PyData} {v x y : V}
variable {Dn : Ends} {tu tw tz : TS} {g : TG}
abbrev g2 (K : PySem.W.Frag) (i j : Nat) : TG := gTup K 2 (gCons (gName i) (gCons (gName j) gNil))
theorem g2_pair {i j : Nat} {T : Addr} {x y : V} {Q : L2.St → Hp → Prop} (h : H T = some (.tup [x, y])) (q : Q ((σ.set i (some x)).set j (some y)) H) : g2 K i j (.ref T) σ H Q :=
  ⟨T, [x, y], rfl, st_of h, rfl, x, [y], rfl, y, [], rfl, rfl, q⟩
/-- for i, x in enumerate(t) -/
theorem s_forEn {i j : Nat} (h : Ed K tl σ H (.tuple ds)) (k : ∀ H1, Ex H H1 → ∃ Pv : Nat → L2.St → Hp → Prop, Pv 0 σ H1 ∧ (∀ n σ' H', Pv n σ' H' → TEx H1 H') ∧
    (∀ n x d σ' H' H'', ds[n]? = some d → Ex H' H'' → Fz K H'' d x → Pv n σ' H' → tu { Dn with nx := Pv (n + 1), ct := Pv (n + 1), bk := Dn.nx } ((σ'.set i (some (.int (n : Int)))).set j (some x)) H'') ∧
    ∀ σ' H', Pv ds.length σ' H' → Dn.nx σ' H') : tFor (iEnumT K (tCons tl tNil)) (g2 K i j) tu Dn σ H :=
  h H (Ex.refl H) _ fun v H1 e f => by
    obtain ⟨a, xs, rfl, hs, hf⟩ := fz_tupS f
    obtain ⟨Pv, h0, hT, hb, hd⟩ := k H1 e
    refine ⟨a, xs, rfl, st_of hs, for_it (walk_enumT (xs := xs)) Pv h0 (fun n σ' H' _ p => tex_t (hT n σ' H' p) hs) (fun n v σ' H' H'' hn p hy => ?_) fun σ' H' p => hd σ' H' (by rw [fzl_len hf] at p; exact p)⟩
    obtain ⟨T, x, y, rfl, hT0, rfl, ex, ey⟩ := hy
    cases (Option.some.inj ex)
    obtain ⟨d, hd', fd⟩ := fzl_getV hf ey
    exact g2_pair upd_same (hb n y d σ' H' _ hd' (Ex.new hT0) (Fz.mono ((hT n σ' H' p).trans (tex_of (Ex.new hT0))) _ _ fd) p)
theorem q_forEn {i j : Nat} (h : Ed K tl σ H (.tuple ds)) (k : ∀ H1, Ex H H1 → ∃ Pv : Nat → L2.St → Hp → Prop, Pv 0 σ H1 ∧ (∀ n σ' H', Pv n σ' H' → TEx H1 H') ∧
    (∀ n x d σ' H' H'', ds[n]? = some d → Ex H' H'' → Fz K H'' d x → Pv n σ' H' → tu { Dn with nx := Pv (n + 1), ct := Pv (n + 1), bk := tz Dn } ((σ'.set i (some (.int (n : Int)))).set j (some x)) H'') ∧
    ∀ σ' H', Pv ds.length σ' H' → tz Dn σ' H') : tSeq (tFor (iEnumT K (tCons tl tNil)) (g2 K i j) tu) tz Dn σ H := s_forEn (Dn := { Dn with nx := tz Dn }) h k
/-- for x, y in zip(t, u), tuples of one length -/
theorem s_forZip {i j : Nat} (h : Ed K ta σ H (.tuple ds)) (h' : Ed K tb σ H (.tuple es)) (hl : ds.length = es.length) (k : ∀ H1, Ex H H1 → ∃ Pv : Nat → L2.St → Hp → Prop, Pv 0 σ H1 ∧ (∀ n σ' H', Pv n σ' H' → TEx H1 H') ∧
    (∀ n x y d e σ' H' H'', ds[n]? = some d → es[n]? = some e → Ex H' H'' → Fz K H'' d x → Fz K H'' e y → Pv n σ' H' → tu { Dn with nx := Pv (n + 1), ct := Pv (n + 1), bk := Dn.nx } ((σ'.set i (some x)).set j (some y)) H'') ∧
    ∀ σ' H', Pv ds.length σ' H' → Dn.nx σ' H') : tFor (RZ.iZipA K (tCons ta (tCons tb tNil))) (g2 K i j) tu Dn σ H :=
  h H (Ex.refl H) _ fun v H1 e1 f => h' H1 e1 _ fun w H2 e2 f' => by
    obtain ⟨a, xs, rfl, hs, hf⟩ := fz_tupS (fz_ex e2 f)
    obtain ⟨b, ys, rfl, hs', hf'⟩ := fz_tupS f'
    obtain ⟨Pv, h0, hT, hb, hd⟩ := k H2 (e1.trans e2)
    refine ⟨a, b, xs, ys, rfl, .inr ⟨st_of hs, st_of hs', for_it (walk_zipT (xs := xs) (ys := ys) (by rw [fzl_len hf, fzl_len hf', hl])) Pv h0 (fun n σ' H' _ p => ⟨tex_t (hT n σ' H' p) hs, tex_t (hT n σ' H' p) hs'⟩) (fun n v σ' H' H'' hn p hy => ?_) fun σ' H' p => hd σ' H' (by rw [fzl_len hf] at p; exact p)⟩⟩
    obtain ⟨T, x, y, rfl, hT0, rfl, ex, ey⟩ := hy
    obtain ⟨d, hd', fd⟩ := fzl_getV hf ex
    obtain ⟨e, he', fe⟩ := fzl_getV hf' ey
    exact g2_pair upd_same (hb n x y d e σ' H' _ hd' he' (Ex.new hT0) (Fz.mono ((hT n σ' H' p).trans (tex_of (Ex.new hT0))) _ _ fd) (Fz.mono ((hT n σ' H' p).trans (tex_of (Ex.new hT0))) _ _ fe) p)
theorem q_forZip {i j : Nat} (h : Ed K ta σ H (.tuple ds)) (h' : Ed K tb σ H (.tuple es)) (hl : ds.length = es.length) (k : ∀ H1, Ex H H1 → ∃ Pv : Nat → L2.St → Hp → Prop, Pv 0 σ H1 ∧ (∀ n σ' H', Pv n σ' H' → TEx H1 H') ∧
    (∀ n x y d e σ' H' H'', ds[n]? = some d → es[n]? = some e → Ex H' H'' → Fz K H'' d x → Fz K H'' e y → Pv n σ' H' → tu { Dn with nx := Pv (n + 1), ct := Pv (n + 1), bk := tz Dn } ((σ'.set i (some x)).set j (some y)) H'') ∧
    ∀ σ' H', Pv ds.length σ' H' → tz Dn σ' H') : tSeq (tFor (RZ.iZipA K (tCons ta (tCons tb tNil))) (g2 K i j) tu) tz Dn σ H := s_forZip (Dn := { Dn with nx := tz Dn }) h h' hl k
/-! ### lists of lists -/
def RowsL (K : PySem.W.Frag) (H : Hp) : List Addr → List (List PyData) → Prop
  | [], rs => rs = []
  | q :: ps, rs => ∃ r rt, rs = r :: rt ∧ (∃ xs, H q = some (.lst xs) ∧ FzL K H r xs) ∧ RowsL K H ps rt
structure RowsP (K : PySem.W.Frag) (H : Hp) (p : Addr) (ps : List Addr) (rss : List (List PyData)) : Prop where
  outer : H p = some (.lst (ps.map V.ref))
  nd : (p :: ps).Nodup
  rows : RowsL K H ps rss
theorem RowsL.len : ∀ {ps : List Addr} {rss : List (List PyData)}, RowsL K H ps rss → ps.length = rss.length
  | [], _, h => by
    rw [show _ = [] from h]
    rfl
  | q :: ps, _, ⟨r, rt, h, _, h2⟩ => by
    rw [h, List.length_cons, List.length_cons, RowsL.len h2]
theorem RowsL.get : ∀ {ps : List Addr} {rss : List (List PyData)} {i : Nat} {r : List PyData}, RowsL K H ps rss → rss[i]? = some r → ∃ q xs, ps[i]? = some q ∧ H q = some (.lst xs) ∧ FzL K H r xs
  | [], _, _, _, h, e => by
    rw [show _ = [] from h] at e
    simp at e
  | q :: ps, _, 0, _, ⟨r, rt, h, ⟨xs, h1, h2⟩, _⟩, e => by
    rw [h] at e
    cases (Option.some.inj e)
    exact ⟨q, xs, rfl, h1, h2⟩
  | q :: ps, _, i + 1, _, ⟨r, rt, h, _, h2⟩, e => by
    rw [h] at e
    exact RowsL.get (i := i) h2 (by simpa using e)
/-- all rows are kept, tuples too -/
theorem RowsL.keep (tx : TEx H H') : ∀ {ps : List Addr} {rss : List (List PyData)}, (∀ q ∈ ps, ∀ o, H q = some o → H' q = some o) → RowsL K H ps rss → RowsL K H' ps rss
  | [], _, _, h => h
  | q :: ps, _, k, ⟨r, rt, h, ⟨xs, h1, h2⟩, h3⟩ => ⟨r, rt, h, ⟨xs, k q List.mem_cons_self _ h1, FzL.mono tx _ _ h2⟩, RowsL.keep tx (fun z hz => k z (List.mem_cons_of_mem _ hz)) h3⟩
theorem RowsL.app : ∀ {ps qs : List Addr} {rss sss : List (List PyData)}, RowsL K H ps rss → RowsL K H qs sss → RowsL K H (ps ++ qs) (rss ++ sss)
  | [], _, _, _, h, k => by
    rw [show _ = [] from h]
    exact k
  | q :: ps, _, _, _, ⟨r, rt, h, h1, h2⟩, k => by
    rw [h]
    exact ⟨r, _, rfl, h1, RowsL.app h2 k⟩
/-- one row changed -/
theorem RowsL.put {xs' : List V} {r' : List PyData} : ∀ {ps : List Addr} {rss : List (List PyData)} {i : Nat} {q : Addr} {xs : List V}, ps.Nodup → ps[i]? = some q → H q = some (.lst xs) → FzL K (upd H q (.lst xs')) r' xs' → RowsL K H ps rss → RowsL K (upd H q (.lst xs')) ps (rss.set i r')
  | [], _, _, _, _, _, e, _, _, _ => by simp at e
  | z :: ps, _, 0, q, xs, nd, e, hq, hf, ⟨r, rt, h, _, h2⟩ => by
    cases (Option.some.inj e)
    rw [h]
    refine ⟨r', rt, rfl, ⟨xs', upd_same, hf⟩, RowsL.keep (tex_lst hq) (fun y hy o ho => ?_) h2⟩
    have ny : y ≠ z := fun w => (List.nodup_cons.mp nd).1 (w ▸ hy)
    rw [upd_ne ny]
    exact ho
  | z :: ps, _, i + 1, q, xs, nd, e, hq, hf, ⟨r, rt, h, ⟨ys, h1, h2⟩, h3⟩ => by
    have e' : ps[i]? = some q := by simpa using e
    have nz : z ≠ q := fun w => (List.nodup_cons.mp nd).1 (w ▸ List.mem_of_getElem? e')
    rw [h]
    exact ⟨r, rt.set i r', rfl, ⟨ys, by rw [upd_ne nz]; exact h1, FzL.mono (tex_lst hq) _ _ h2⟩, RowsL.put (List.nodup_cons.mp nd).2 e' hq hf h3⟩
theorem RowsP.ex {p : Addr} {ps : List Addr} {rss : List (List PyData)} (e : Ex H H') (R : RowsP K H p ps rss) : RowsP K H' p ps rss :=
  ⟨e _ _ R.outer, R.nd, R.rows.keep (tex_of e) fun q _ o ho => e q o ho⟩
/-- kept but for one object that is none of them -/
theorem RowsP.but {p z : Addr} {ps : List Addr} {rss : List (List PyData)} (tx : TEx H H') (k : ∀ a o, a ≠ z → H a = some o → H' a = some o) (hz : z ∉ p :: ps) (R : RowsP K H p ps rss) : RowsP K H' p ps rss :=
  ⟨k _ _ (fun e => hz (e ▸ List.mem_cons_self)) R.outer, R.nd, R.rows.keep tx fun q hq o ho => k q o (fun e => hz (e ▸ List.mem_cons_of_mem _ hq)) ho⟩
theorem RowsP.put {p q : Addr} {ps : List Addr} {rss : List (List PyData)} {i : Nat} {xs xs' : List V} {r' : List PyData} (R : RowsP K H p ps rss) (hq : ps[i]? = some q) (hx : H q = some (.lst xs)) (hf : FzL K (upd H q (.lst xs')) r' xs') :
    RowsP K (upd H q (.lst xs')) p ps (rss.set i r') :=
  have np : p ≠ q := fun w => (List.nodup_cons.mp R.nd).1 (w ▸ List.mem_of_getElem? hq)
  ⟨by rw [upd_ne np]; exact R.outer, R.nd, R.rows.put (List.nodup_cons.mp R.nd).2 hq hx hf⟩
/-- rows[a] -/
theorem ev_rowAt {p q : Addr} {ps : List Addr} {rss : List (List PyData)} {a : Nat} (R : RowsP K H p ps rss) (hA : Ev ta σ H (.ref p)) (hB : Ev tb σ H (.int (a : Int))) (hq : ps[a]? = some q) : Ev (tOp (rIxL K) ta tb) σ H (.ref q) :=
  ev_op hA hB (rv_ixL (sq_of R.outer) (atI_of (by rw [List.getElem?_map, hq]; rfl)))
/-- rows[a][b] -/
theorem ed_rowAt2 {p : Addr} {ps : List Addr} {rss : List (List PyData)} {a b : Nat} {r : List PyData} (R : RowsP K H p ps rss) (hA : Ev ta σ H (.ref p)) (hB : Ev tb σ H (.int (a : Int))) (hC : Ev tc σ H (.int (b : Int))) (hr : rss[a]? = some r) (hd : r[b]? = some d) :
    Ed K (tOp (rIxL K) (tOp (rIxL K) ta tb) tc) σ H d := by
  obtain ⟨q, xs, hq, hx, hf⟩ := R.rows.get hr
  exact ed_ixL (ev_rowAt R hA hB hq) (sq_of hx) hf hC hd
/-- rows[a][b] = e -/
theorem s_setRow {p : Addr} {ps : List Addr} {rss : List (List PyData)} {a b : Nat} {r : List PyData} (R : RowsP K H p ps rss) (he : Ed K te σ H d) (hA : Ev ta σ H (.ref p)) (hB : Ev tb σ H (.int (a : Int))) (hC : Ev tc σ H (.int (b : Int))) (hr : rss[a]? = some r) (hb : b < r.length)
    (k : ∀ H1 q xs v, q ∈ ps → Ex H H1 → H1 q = some (.lst xs) → RowsP K (upd H1 q (.lst (xs.set b v))) p ps (rss.set a (r.set b d)) → Dn.nx σ (upd H1 q (.lst (xs.set b v)))) :
    tAsg te (gSub (tOp (rIxL K) ta tb) tc rSetL) Dn σ H := he H (Ex.refl H) _ fun v H1 e1 fv => by
  obtain ⟨q, xs, hq, hx, hf⟩ := R.rows.get hr
  refine ev_rowAt R hA hB hq H1 e1 _ fun H2 e2 => hC H2 (e1.trans e2) _ fun H3 e3 => ?_
  have e13 := (e1.trans e2).trans e3
  have h3 := e13 _ _ hx
  refine ⟨q, xs, (b : Int), b, rfl, rfl, h3, ixN_nat (by rw [fzl_len hf]; exact hb), k H3 q xs v (List.mem_of_getElem? hq) e13 h3 ?_⟩
  exact (R.ex e13).put hq h3 (FzL.mono (tex_lst h3) _ _ (fzl_set b (fzl_ex e13 hf) (fz_ex (e2.trans e3) fv)))
theorem q_setRow {p : Addr} {ps : List Addr} {rss : List (List PyData)} {a b : Nat} {r : List PyData} (R : RowsP K H p ps rss) (he : Ed K te σ H d) (hA : Ev ta σ H (.ref p)) (hB : Ev tb σ H (.int (a : Int))) (hC : Ev tc σ H (.int (b : Int))) (hr : rss[a]? = some r) (hb : b < r.length)
    (k : ∀ H1 q xs v, q ∈ ps → Ex H H1 → H1 q = some (.lst xs) → RowsP K (upd H1 q (.lst (xs.set b v))) p ps (rss.set a (r.set b d)) → tz Dn σ (upd H1 q (.lst (xs.set b v)))) :
    tSeq (tAsg te (gSub (tOp (rIxL K) ta tb) tc rSetL)) tz Dn σ H := s_setRow (Dn := { Dn with nx := tz Dn }) R he hA hB hC hr hb k
/-- xs[b] = e of a list of frozen data -/
theorem s_setD {l : Addr} {xs : List V} {b : Nat} (hl : H l = some (.lst xs)) (he : Ed K te σ H d) (hA : Ev ta σ H (.ref l)) (hB : Ev tb σ H (.int (b : Int))) (hb : b < xs.length)
    (k : ∀ v H1, Ex H H1 → Fz K H1 d v → Dn.nx σ (upd H1 l (.lst (xs.set b v)))) : tAsg te (gSub ta tb rSetL) Dn σ H := he H (Ex.refl H) _ fun v H1 e1 fv =>
  hA H1 e1 _ fun H2 e2 => hB H2 (e1.trans e2) _ fun H3 e3 => ⟨l, xs, (b : Int), b, rfl, rfl, ((e1.trans e2).trans e3) _ _ hl, ixN_nat hb, k v H3 ((e1.trans e2).trans e3) (fz_ex (e2.trans e3) fv)⟩
theorem q_setD {l : Addr} {xs : List V} {b : Nat} (hl : H l = some (.lst xs)) (he : Ed K te σ H d) (hA : Ev ta σ H (.ref l)) (hB : Ev tb σ H (.int (b : Int))) (hb : b < xs.length)
    (k : ∀ v H1, Ex H H1 → Fz K H1 d v → tz Dn σ (upd H1 l (.lst (xs.set b v)))) : tSeq (tAsg te (gSub ta tb rSetL)) tz Dn σ H := s_setD (Dn := { Dn with nx := tz Dn }) hl he hA hB hb k
theorem fzl_repl (n : Nat) (h : Fz K H d v) : FzL K H (List.replicate n d) (List.replicate n v) := by
  induction n with
  | zero => exact fzl_nil
  | succ n ih => exact fzl_cons h ih
/-- [d] * n -/
theorem el_rep {n : Nat} (h : El K ta σ H [d]) (hb : Ev tb σ H (.int (n : Int))) (hn : n ≤ 100000) : El K (tOp rRep ta tb) σ H (List.replicate n d) := fun H1 e Q q =>
  h H1 e _ fun p xs H2 hp e2 hx f => hb H2 (e.trans e2) _ fun H3 e3 => by
    obtain ⟨v, r, rfl, fv, fr⟩ := fzl_consI f
    rw [fzl_nilI fr] at hx
    have en : (List.replicate (n : Int).toNat [v]).flatten = List.replicate n v := by
      rw [Int.toNat_natCast]
      induction n with
      | zero => rfl
      | succ n ih => simp
    refine ⟨p, n, [v], rfl, rfl, e3 _ _ hx, by omega, by omega, sz_of (by simp; omega), fun l hl => ?_⟩
    rw [en]
    refine q l _ _ (fresh_back (e2.trans e3) hl) ((e2.trans e3).trans (Ex.new hl)) upd_same (fzl_ex (Ex.new hl) ?_)
    exact fzl_repl n (fz_ex e3 fv)
/-! ### comprehensions whose elements are new lists -/
def ElR (K : PySem.W.Frag) (te : TE) (σ : L2.St) (H : Hp) (rss : List (List PyData)) : Prop := ∀ H1, Ex H H1 → ∀ Q : VK, (∀ p ps H2, (∀ q ∈ p :: ps, H1 q = none) → Ex H1 H2 → RowsP K H2 p ps rss → Q (.ref p) H2) → te σ H1 Q
def CwR (K : PySem.W.Frag) (H : Hp) (out : Nat → List (List PyData)) (Dl : Addr) (i : Nat) (H' : Hp) : Prop := Ex H H' ∧ ∃ ps, (∀ q ∈ Dl :: ps, H q = none) ∧ RowsP K H' Dl ps (out i)
theorem cwr_turn {out : Nat → List (List PyData)} {Dl : Addr} {i : Nat} {σ2 : L2.St} {r : List PyData} (p : CwR K H out Dl i H') (hi : (out i).length < 100000) (h : ∀ H3, Ex H H3 → Ex H' H3 → El K te σ2 H3 r) (ho : out (i + 1) = out i ++ [r]) :
    ∀ H4, Ex H' H4 → tYes σ2 H4 fun b H3 => if b = true then te σ2 H3 fun y H4 => ∃ acc, H4 Dl = some (.lst acc) ∧ acc.length < sizeLine ∧ CwR K H out Dl (i + 1) (upd H4 Dl (.lst (acc ++ [y]))) else CwR K H out Dl (i + 1) H3 := by
  intro Hs es
  obtain ⟨p1, ps, p2, R⟩ := p
  show te σ2 Hs fun y H4 => ∃ acc, H4 Dl = some (.lst acc) ∧ acc.length < sizeLine ∧ CwR K H out Dl (i + 1) (upd H4 Dl (.lst (acc ++ [y])))
  refine h Hs (p1.trans es) es Hs (Ex.refl _) _ fun q xs H4 hq e4 hx f => ?_
  have R4 := R.ex (es.trans e4)
  have nq : q ∉ Dl :: ps := fun hm => by
    rcases List.mem_cons.mp hm with z | z
    · rw [z, es _ _ R.outer] at hq
      cases hq
    · obtain ⟨j, hj⟩ := List.getElem?_of_mem z
      have hl := R.rows.len
      have hjl := (List.getElem?_eq_some_iff.mp hj).1
      obtain ⟨q', xs', hq', hx', _⟩ := R.rows.get (List.getElem?_eq_getElem (by omega : j < (out i).length))
      rw [hj] at hq'
      cases hq'
      rw [es _ _ hx'] at hq
      cases hq
  have nDl : q ≠ Dl := fun z => nq (z ▸ List.mem_cons_self)
  refine ⟨ps.map V.ref, R4.outer, sz_lt (by rw [List.length_map, R.rows.len]; exact hi), Ex.mut (p1.trans (es.trans e4)) (p2 _ List.mem_cons_self), ps ++ [q], fun z hz => ?_, ?_, ?_, ?_⟩
  · rcases List.mem_cons.mp hz with z' | z'
    · exact z' ▸ p2 _ List.mem_cons_self
    · rcases List.mem_append.mp z' with z' | z'
      · exact p2 _ (List.mem_cons_of_mem _ z')
      · rw [List.mem_singleton.mp z']
        exact fresh_back (p1.trans es) hq
  · rw [List.map_append]
    exact upd_same
  · have nd := R.nd
    rw [List.nodup_cons] at nd ⊢
    refine ⟨fun hm => ?_, ?_⟩
    · rcases List.mem_append.mp hm with z | z
      · exact nd.1 z
      · exact nDl (List.mem_singleton.mp z).symm
    · rw [List.nodup_append]
      exact ⟨nd.2, by simp, fun a ha b hb => by rw [List.mem_singleton.mp hb]; exact fun z => nq (z ▸ List.mem_cons_of_mem _ ha)⟩
  · rw [ho]
    have tx : TEx H4 (upd H4 Dl (.lst (ps.map V.ref ++ [V.ref q]))) := tex_lst R4.outer
    refine RowsL.app (RowsL.keep tx (fun a ha o hao => ?_) R4.rows) ⟨r, [], rfl, ⟨xs, by rw [upd_ne nDl]; exact hx, FzL.mono tx _ _ f⟩, rfl⟩
    have na : a ≠ Dl := fun z => (List.nodup_cons.mp R.nd).1 (z ▸ ha)
    rw [upd_ne na]
    exact hao
theorem cwr_zero {out : Nat → List (List PyData)} {Dl : Addr} (hD : H Dl = none) (h0 : out 0 = []) : CwR K H out Dl 0 (upd H Dl (.lst [])) :=
  ⟨Ex.new hD, [], fun q hq => by rw [List.mem_singleton.mp hq]; exact hD, upd_same, by simp, h0⟩
/-- over a tuple -/
theorem er_lcTd {j : Nat} {vs : List Nat} (out : Nat → List (List PyData)) (h : Ed K tl σ H (.tuple ds)) (h0 : out 0 = []) (hz : ∀ i, i < ds.length → (out i).length < 100000) (hw : ∀ x, wipe ((wipe σ vs).set j (some x)) vs = wipe σ vs)
    (hs : ∀ (i : Nat) (x : V) d H1, Ex H H1 → ds[i]? = some d → Fz K H1 d x → ∃ r, El K te ((wipe σ vs).set j (some x)) H1 r ∧ out (i + 1) = out i ++ [r]) :
    ElR K (tLc (iTup K tl) (gName j) tYes te vs) σ H (out ds.length) := fun H0 e Q q => h H0 e _ fun v H1 e1 f => by
  obtain ⟨a, xs, rfl, hx, hf⟩ := fz_tupI f
  refine ⟨a, rfl, ⟨xs, hx⟩, fun Dl hD => lc_tup (xs := xs) (CwR K H1 out Dl) (cwr_zero hD h0) (fun i H' _ p => ex_t p.1 hx) (fun i x H' hi p => ?_) (fun H' p => ?_)⟩
  · obtain ⟨d, hd, fd⟩ := fzl_getV hf hi
    obtain ⟨r, _, ho⟩ := hs i x d H1 (e.trans e1) hd fd
    refine ⟨hw x, cwr_turn p (hz i (by have := (List.getElem?_eq_some_iff.mp hd).1; omega)) (fun H3 e3 _ => ?_) ho H' (Ex.refl _)⟩
    obtain ⟨r', hr', ho'⟩ := hs i x d H3 ((e.trans e1).trans e3) hd (fz_ex e3 fd)
    rw [ho] at ho'
    have er : r = r' := List.cons.inj (List.append_cancel_left ho') |>.1
    exact er ▸ hr'
  · obtain ⟨p1, ps, p2, R⟩ := p
    rw [fzl_len hf] at R
    exact q Dl ps H' (fun z hz => fresh_back e1 (p2 z hz)) (e1.trans p1) R
/-- over range(n) -/
theorem er_lcRd {ta : TA} {j : Nat} {vs : List Nat} {n : Nat} (out : Nat → List (List PyData)) (h : EvA ta σ H [.int (n : Int)]) (hn : n ≤ 40000) (h0 : out 0 = []) (hz : ∀ i, i < n → (out i).length < 100000) (hw : ∀ x, wipe ((wipe σ vs).set j (some x)) vs = wipe σ vs)
    (hs : ∀ (i : Nat) H1, Ex H H1 → i < n → ∃ r, El K te ((wipe σ vs).set j (some (.int (i : Int)))) H1 r ∧ out (i + 1) = out i ++ [r]) :
    ElR K (tLc (iRng1 ta) (gName j) tYes te vs) σ H (out n) := fun H0 e Q q => h H0 e _ fun H1 e1 => ⟨n, rfl, by omega, by omega, fun Dl hD =>
  lc_range (lo := 0) (n := n) (CwR K H1 out Dl) (cwr_zero hD h0) (fun i H' hi p => by
    have e0 : (0 : Int) + (i : Int) = (i : Int) := Int.zero_add _
    show wipe ((wipe σ vs).set j (some (.int ((0 : Int) + (i : Int))))) vs = wipe σ vs ∧ tYes ((wipe σ vs).set j (some (.int ((0 : Int) + (i : Int))))) H' fun b H3 => if b = true then te ((wipe σ vs).set j (some (.int ((0 : Int) + (i : Int))))) H3 fun y H4 => ∃ acc, H4 Dl = some (.lst acc) ∧ acc.length < sizeLine ∧ CwR K H1 out Dl (i + 1) (upd H4 Dl (.lst (acc ++ [y]))) else CwR K H1 out Dl (i + 1) H3
    rw [e0]
    obtain ⟨r, _, ho⟩ := hs i H1 (e.trans e1) hi
    refine ⟨hw _, cwr_turn p (hz i hi) (fun H3 e3 _ => ?_) ho H' (Ex.refl _)⟩
    obtain ⟨r', hr', ho'⟩ := hs i H3 ((e.trans e1).trans e3) hi
    rw [ho] at ho'
    have er : r = r' := List.cons.inj (List.append_cancel_left ho') |>.1
    exact er ▸ hr') (fun H' p => by
    obtain ⟨p1, ps, p2, R⟩ := p
    exact q Dl ps H' (fun z hz => fresh_back e1 (p2 z hz)) (e1.trans p1) R)⟩
/-- [tuple(row) for row in rows] and its like: over a list of lists -/
theorem el_lcRows {j : Nat} {vs : List Nat} {p : Addr} {ps : List Addr} {rss : List (List PyData)} (out : Nat → List PyData) (h : Ev tl σ H (.ref p)) (R : RowsP K H p ps rss) (h0 : out 0 = []) (hz : ∀ i, i < rss.length → (out i).length < 100000) (hw : ∀ x, wipe ((wipe σ vs).set j (some x)) vs = wipe σ vs)
    (hs : ∀ (i : Nat) q xs r H1, Ex H H1 → rss[i]? = some r → H1 q = some (.lst xs) → FzL K H1 r xs → ∃ d, Ed K te ((wipe σ vs).set j (some (.ref q))) H1 d ∧ out (i + 1) = out i ++ [d]) :
    El K (tLc (iList K tl) (gName j) tYes te vs) σ H (out rss.length) := fun H0 e Q k => h H0 e _ fun H1 e1 => by
  have R1 := R.ex (e.trans e1)
  refine ⟨p, rfl, ⟨_, sq_of R1.outer⟩, fun Dl hD => lc_list (xs := ps.map V.ref) (CwD K H1 out Dl) ⟨hD, Ex.new hD, [], upd_same, by rw [h0]; exact fzl_nil⟩ (fun i H' _ p => sq_of (p.2.1 _ _ R1.outer)) (fun i x H' hi p => ?_) (fun H' p => ?_)⟩
  · rw [List.getElem?_map] at hi
    cases hq : ps[i]? with
    | none =>
      rw [hq] at hi
      cases hi
    | some q =>
      rw [hq] at hi
      cases (Option.some.inj hi)
      have hil : i < rss.length := by
        have := (List.getElem?_eq_some_iff.mp hq).1
        rw [← R.rows.len]
        exact this
      obtain ⟨q', xs, hq', hx, hf⟩ := R1.rows.get (List.getElem?_eq_getElem hil)
      rw [hq] at hq'
      cases hq'
      refine ⟨hw _, cwd_turn p (hz i hil) (fun H3 e3 _ => ?_) H' (Ex.refl _)⟩
      obtain ⟨d, hd, ho⟩ := hs i q xs _ H3 ((e.trans e1).trans e3) (List.getElem?_eq_getElem hil) (e3 _ _ hx) (fzl_ex e3 hf)
      exact turn_all et_yes hd ho
  · obtain ⟨p1, p2, acc, p3, p4⟩ := p
    rw [List.length_map, R.rows.len] at p4
    exact k Dl acc H' (fresh_back e1 p1) (e1.trans p2) p3 p4
theorem q_asgR {i : Nat} {rss : List (List PyData)} (h : ElR K te σ H rss) (k : ∀ p ps H1, (∀ q ∈ p :: ps, H q = none) → Ex H H1 → RowsP K H1 p ps rss → tz Dn (σ.set i (some (.ref p))) H1) : tSeq (tAsg te (gName i)) tz Dn σ H := h H (Ex.refl H) _ fun p ps H1 hp e R => k p ps H1 hp e R
end
end WT
/-! Toolkit 5: defs by name (Okd), defs that are called where nothing is being written out (Okg), the law's end over such. -/
namespace WT
open PySem PySem.Spec PyProof.Rows L2 Evl
/-! ### a def as it stands, by its name -/
structure DefIn (K : PySem.W.Frag) (mg : Str → Option Value) (x : Str) (ps : List Str) (st : Stmt) : Prop where
  ex : ∃ (f : Addr) (fd : FuncData), Fun K x x st f fd ∧ mg x = some (.ref f) ∧ Binds K fd ps []
def Okd (P : Program) (w : World) (K : PySem.W.Frag) (mg : Str → Option Value) (base : Heap) (x : Str) (ps : List Str) (st : Stmt) (k : Nat) (sp : Sp) : Prop :=
  ∃ (f : Addr) (fd : FuncData), mg x = some (.ref f) ∧ Fun K x x st f fd ∧ Binds K fd ps [] ∧ FnOk P w K mg base CX0 k f fd ps sp
/-- a def's promise, kept wherever it is called with nothing being written out (repr) around -/
structure FnG (P : Program) (w : World) (K : PySem.W.Frag) (mg : Str → Option Value) (base : Heap) (k : Nat) (f : Addr) (fd : FuncData) (ps : List Str) (sp : Sp) : Prop where
  len : ∀ vs H Q E, sp vs H Q E → vs.length = ps.length
  run : ∀ (A : Around) (out : List Env) (s : Shared) (H : Hp) (args : Args) (us : List Value) (vs : List V) (Q : VK) (E : XK), A.guards = some [] → Room k A → Env0 P w K mg base A out s H →
    BindsTo s fd args (ps.zip us) → Vals vs us → sp vs H Q E → codeAny (model P w) A (.call (.ref f) args) (CR CX0 out P w H s Q E) s
def Okg (P : Program) (w : World) (K : PySem.W.Frag) (mg : Str → Option Value) (base : Heap) (x : Str) (ps : List Str) (st : Stmt) (k : Nat) (sp : Sp) : Prop :=
  ∃ (f : Addr) (fd : FuncData), mg x = some (.ref f) ∧ Fun K x x st f fd ∧ Binds K fd ps [] ∧ FnG P w K mg base k f fd ps sp
section
variable {P : Program} {w : World} {K : PySem.W.Frag} {mg : Str → Option Value} {base : Heap}
theorem Okd.mk {x : Str} {ps N : List Str} {st : Stmt} {k : Nat} {sp : Sp} (d : DefIn K mg x ps st) (S : FnScope N ps (defScope st)) (len : ∀ vs H Q E, sp vs H Q E → vs.length = ps.length)
    (h : ∀ (f : Addr) (cdv : Value) (A : Around) (outer : List Env) (s : Shared) (H : Hp) (vs : List V) (Q : VK) (E : XK), Room k (A.deeper (envOfC x (defScope st) s.heap.objs.size f cdv)) → sp vs H Q E →
      ∃ t, PSs (cxOf CX0 P w K mg base N x (defScope st) f cdv A outer s H E).nox (defBody st) t ∧ t { nx := fun _ H' => Q .non H', rt := Q } (start N vs) H) : Okd P w K mg base x ps st (k + 1) sp := by
  obtain ⟨f, fd, F, g, b⟩ := d.ex
  exact ⟨f, fd, g, F, b, F.ok S len fun cdv A outer s H vs Q E => h f cdv A outer s H vs Q E⟩
theorem Okd.lift {x : Str} {ps : List Str} {st : Stmt} {j k : Nat} {sp : Sp} (o : Okd P w K mg base x ps st j sp) (h : j ≤ k) : Okd P w K mg base x ps st k sp := by
  obtain ⟨f, fd, g, kp, b, G⟩ := o
  exact ⟨f, fd, g, kp, b, G.mono h⟩
theorem Okd.weak {x : Str} {ps : List Str} {st : Stmt} {k : Nat} {sp sp' : Sp} (o : Okd P w K mg base x ps st k sp) (h : ∀ vs H Q E, sp' vs H Q E → sp vs H Q E) : Okd P w K mg base x ps st k sp' := by
  obtain ⟨f, fd, g, kp, b, G⟩ := o
  exact ⟨f, fd, g, kp, b, G.imp h⟩
/-- a def that is well wherever it is called is well here -/
theorem Okd.g {x : Str} {ps : List Str} {st : Stmt} {k : Nat} {sp : Sp} (o : Okd P w K mg base x ps st k sp) : Okg P w K mg base x ps st k sp := by
  obtain ⟨f, fd, g, kp, b, G⟩ := o
  exact ⟨f, fd, g, kp, b, G.len, fun A out s H args us vs Q E _ hr => G.run A out s H args us vs Q E hr⟩
theorem Okg.mk {x : Str} {ps N : List Str} {st : Stmt} {k : Nat} {sp : Sp} (d : DefIn K mg x ps st) (S : FnScope N ps (defScope st)) (len : ∀ vs H Q E, sp vs H Q E → vs.length = ps.length)
    (h : ∀ (f : Addr) (cdv : Value) (A : Around) (outer : List Env) (s : Shared) (H : Hp) (vs : List V) (Q : VK) (E : XK), A.guards = some [] → Room k (A.deeper (envOfC x (defScope st) s.heap.objs.size f cdv)) → sp vs H Q E →
      ∃ t, PSs (cxOf CX0 P w K mg base N x (defScope st) f cdv A outer s H E).nox (defBody st) t ∧ t { nx := fun _ H' => Q .non H', rt := Q } (start N vs) H) : Okg P w K mg base x ps st (k + 1) sp := by
  obtain ⟨f, fd, F, g, b⟩ := d.ex
  refine ⟨f, fd, g, F, b, len, fun A out s H args us vs Q E hgd hr e0 hb r hsp => ?_⟩
  obtain ⟨oc, od, kV, doc, pm, an, cdv, ct, osl, rfl, lk, hcd⟩ := F.ex
  have hl := len _ _ _ _ hsp
  have kin : K.In s.heap := e0.mod.kin.keeps fun b o e => (e0.bs b o e).1
  have nol : s.heap.NoLimit := e0.mod.nolimit.keeps fun b o e => (e0.bs b o e).1
  have kinds : ∀ y ∈ ps.zip us, (defScope st).names.lookup y.1 = some .local ∨ ((defScope st).names.lookup y.1 = some .cell ∧ ((cellsFrom (s.heap.objs.size + 1) (defScope st).names []).lookup y.1).isSome = true) := fun y hy => by
    have hm : y.1 ∈ ps := (List.of_mem_zip (show (y.1, y.2) ∈ ps.zip us from hy)).1
    rcases S.par y.1 hm with q | q
    · exact .inl q
    · exact .inr ⟨q, PySem.W.cellsFrom_some _ _ _ (.inl q)⟩
  refine codeAny_call_function hr.depth (kin _ _ lk) rfl S.co S.gen rfl (PySem.W.codeRec_of kin hcd) (hb _ _ _ _ ?_)
  refine wpAny_newFunctionEnv_cells S.kind kinds fun env he s1 nx => ?_
  subst he
  refine ⟨nol.keeps nx.toInCall.keep, codeAny_func ?_⟩
  obtain ⟨t, ht, hq⟩ := h f cdv A out s H vs Q E hgd (hr.deeper _) hsp
  have I : Inv (cxOf CX0 P w K mg base N x (defScope st) f cdv A out s H E) [] (start N vs) H s1 := inv_start S hr.hd e0 hl r nx
  refine wpAny_mono (ht.nox.run [] s1 (start N vs) H _ I hq) (fun fl s' hs => ?_) fun e s' hs => hs
  have close : ∀ {σ' : L2.St} {H' : Hp} {v : V} {u : Value}, Inv (cxOf CX0 P w K mg base N x (defScope st) f cdv A out s H E) [] σ' H' s' → RelV v u → Q v H' → CE out P w H s Q u s' :=
    fun {_ H' v _} J rv q => ⟨v, H', J.os, J.bare, J.base, J.hok, rv, q⟩
  match fl, hs with
  | .ret u, ⟨v, σ', H', J, rv, q⟩ => exact close J rv q
  | .next, ⟨σ', H', J, q⟩ => exact close (v := V.non) (u := Value.none) J rfl q
  | .brk, ⟨_, _, _, q⟩ => exact False.elim q
  | .cont, ⟨_, _, _, q⟩ => exact False.elim q
end
section
variable {X : Cx} {k : Nat} {x : Str} {p pos : Pos} {e : Expr} {es : List Expr} {t tk : TA} {ps ks : List Str} {sp : Sp} {st : Stmt} {kws : List Keyword}
theorem pe_fn (o : Okd X.prog X.w X.K X.mg X.base x ps st k sp) (hr : Room k X.A) (ha : PA X (e :: es) t) (hg : Gl X x := by rfl) (hdb : (x == ("__debug__" : Str)) = false := by decide)
    (he : starEach (e :: es) X.env = (false, eval e X.env) :: starEach es X.env := by rfl) (hpl : (backTo pos (starEach es X.env)).any (·.1) = false := by rfl) : PE X (.Call (.Name x p) (e :: es) [] pos) (tCall sp [] E0 t) := by
  obtain ⟨f, fd, g, kp, b, G⟩ := o
  exact pe_call G hr hg g kp.kp b .nil pass0 ha hdb he hpl
theorem pe_fnG (o : Okg X.prog X.w X.K X.mg X.base x ps st k sp) (hgd : X.A.guards = some []) (hr : Room k X.A) (ha : PA X (e :: es) t) (hg : Gl X x := by rfl) (hdb : (x == ("__debug__" : Str)) = false := by decide)
    (he : starEach (e :: es) X.env = (false, eval e X.env) :: starEach es X.env := by rfl) (hpl : (backTo pos (starEach es X.env)).any (·.1) = false := by rfl) : PE X (.Call (.Name x p) (e :: es) [] pos) (tCall sp [] E0 t) := by
  obtain ⟨f, fd, g, kp, b, G⟩ := o
  refine ⟨fun pins s σ H Q I h => wpAny_Call_Name_kw (ld_glob I hg g ?_ hdb)⟩
  refine PySem.W.callWith_K (h₀ := X.base) I.ok.mod.kin kp.kp (thn (ha.run pos pins s σ H _ I h) fun us s1 hvs => ?_) he hpl
  obtain ⟨vs, H1, I1, r, q⟩ := hvs
  refine ⟨I1.kIn, ?_⟩
  rw [List.append_nil] at q
  have hl : us.length = ps.length := by rw [← r.length]; exact G.len _ _ _ _ q
  refine wpAny_call (codeAny_mono (G.run X.A X.stack s1 H1 ⟨us, []⟩ us vs Q E0 hgd hr I1.env0 ?_ r q) fun rs s' hq => ?_)
  · have z := b s1 us I1.kIn (by rw [List.append_nil]; exact hl)
    rw [List.append_nil] at z
    exact z
  · match rs, hq with
    | .ok (.ret u), hq => exact I1.after hq
    | .ok .next, hq => exact False.elim hq
    | .ok .brk, hq => exact False.elim hq
    | .ok .cont, hq => exact False.elim hq
    | .error _, hq => exact False.elim hq
/-- how the arguments and the keywords' values come to the parameters: h is «fun _ _ _ _ _ _ us ws hl => match us, ws, hl with | [_, _], [_], _ => rfl» -/
theorem kbOf {K : PySem.W.Frag} {f : Addr} {fd : FuncData} {g : List Value → List Value → List Value} {gV : List V → List V → List V} (F : Fun K x x st f fd) (rel : ∀ {vs : List V} {us : List Value} {zs : List V} {ws : List Value}, Vals vs us → Vals zs ws → Vals (gV vs zs) (g us ws))
    (h : ∀ (kV doc pm : Value) (an : Option Addr) (cdv ct : Value) (us ws : List Value), (g us ws).length = ps.length → bindArgs (PySem.W.fnOf x x (defArgs st) (defBody st) (defScope st) .none kV doc pm an cdv ct) ⟨us, ks.zip ws⟩ = pure (ps.zip (g us ws))) : KBinds K fd ps ks g gV := by
  obtain ⟨oc, od, kV, doc, pm, an, cdv, ct, osl, rfl, lk, hcd⟩ := F.ex
  exact ⟨fun s us ws _ hl => .of_eq (h kV doc pm an cdv ct us ws hl), rel⟩
/-- f(a, .., k = b, ..) -/
theorem pe_fnK {g : List Value → List Value → List Value} {gV : List V → List V → List V} (o : Okd X.prog X.w X.K X.mg X.base x ps st k sp) (hr : Room k X.A) (hb : ∀ (f : Addr) (fd : FuncData), Fun X.K x x st f fd → KBinds X.K fd ps ks g gV) (ha : PA X (e :: es) t) (hkw : PK X kws tk)
    (hall : (backToKw pos (keywordEach kws X.env)).all (·.1.isSome) = true := by rfl) (hks : (backToKw pos (keywordEach kws X.env)).filterMap (·.1) = ks := by rfl) (hg : Gl X x := by rfl)
    (hdb : (x == ("__debug__" : Str)) = false := by decide) (he : starEach (e :: es) X.env = (false, eval e X.env) :: starEach es X.env := by rfl)
    (hpl : ((backTo pos (starEach (e :: es) X.env)).any (·.1) || (backToKw pos (keywordEach kws X.env)).any (·.1.isNone)) = false := by rfl) : PE X (.Call (.Name x p) (e :: es) kws pos) (tCallK sp gV E0 t tk) := by
  obtain ⟨f, fd, gm, F, b, G⟩ := o
  exact pe_callK G hr hg gm F.kp (hb f fd F) pass0 ha hkw hall hks hdb he hpl
end
end WT
/-! Toolkit 6: the law's own call, over a promise of the kind Okg. -/
namespace WT
open PySem PySem.Spec PyProof.Rows L2 Evl
section
variable {P : Program} {w : World} {K : PySem.W.Frag} {mg mb : Str → Option Value} {k : Nat} {fa a : Addr} {fd : FuncData} {x : Str} {sp : Sp} {s : Shared} {vs : List Value} {ns : List Int}
/-- from one abstract heap that tracks at most the script -/
theorem call_from (kin : K.In s.heap) (glo : s.heap.Ns mainGlobals mg) (blt : s.heap.Ns builtinsNs mb) (bok : ∀ y : Str, y ≠ "__name__" → mb y = bootBuiltins y) (nol : s.heap.NoLimit) (gen : s.gens = #[])
    (ho : s.heap.get? a = some { cls := .type "list", data := .seq vs.toArray }) (hr : Room k callerA) (F : ∀ base : Heap, K.In base → base.Ns mainGlobals mg → FnG P w K mg base k fa fd [x] sp)
    (hb : ∀ (s : Shared) (u : Value), BindsTo s fd ⟨[u], []⟩ [(x, u)]) (H : Hp) (only : Only H) (hsp : sp [.ref a] H (fun v _ => v = .bl true) fun _ _ _ => False) (hok : HOk P w H s.heap)
    (one : ∀ b, H b ≠ none → b = a) (noK : H a ≠ none → K.lookup a = none) :
    codeAny (model P w) callerA (.call (.ref fa) ⟨[.ref a], []⟩) (fun r s' => r = .ok (.ret (.bool true)) ∧ OldK s.heap s'.heap ∧ s'.os = s.os ∧ AllBare s'.gens) s := by
  have dictFree : ∀ {b : Addr} {o : Obj} {es : Array DictEntry} {ep : Nat}, s.heap.get? b = some o → o.data = .dict es ep → H b = none := by
    intro b o es ep e d
    cases q : H b with
    | none => rfl
    | some u =>
      have z : b = a := one b (by rw [q]; simp)
      rw [z, ho] at e
      cases e
      cases d
  have ns1 : ∀ {b : Addr} {m : Str → Option Value}, s.heap.Ns b m → (hidT s.heap H).Ns b m := by
    rintro b m ⟨o, es, ep, e, d, r⟩
    exact ⟨o, es, ep, hidT_get e (dictFree e d), d, r⟩
  have kin1 : K.In (hidT s.heap H) := by
    intro b o e
    refine hidT_get (kin b o e) ?_
    cases q : H b with
    | none => rfl
    | some u =>
      have z : b = a := one b (by rw [q]; simp)
      subst z
      rw [noK (by rw [q]; simp)] at e
      cases e
  have md : Mod K mg (hidT s.heap H) := by
    obtain ⟨mc, n1, n2⟩ := nol
    exact ⟨kin1, ns1 glo, ⟨mb, ns1 blt, bok⟩, mc, ns1 n1, n2⟩
  have e0 : Env0 P w K mg (hidT s.heap H) callerA [] s H :=
    ⟨rfl, md, fun b o e => of_hidT e, Nat.le_of_eq (hidT_size _ _), trivial, (fun b hb => absurd (show b ∈ ([] : List Addr) from hb) (by simp)), hok, AllBare.of_eq gen⟩
  refine codeAny_mono ((F _ kin1 (ns1 glo)).run callerA [] s H ⟨[.ref a], []⟩ [.ref a] [.ref a] _ _ rfl hr e0 (hb s (.ref a)) (.cons rfl .nil) hsp) fun r s' h => ?_
  match r, h with
  | .error _, h => exact False.elim h
  | .ok .next, h => exact False.elim h
  | .ok .brk, h => exact False.elim h
  | .ok .cont, h => exact False.elim h
  | .ok (.ret u), h =>
    obtain ⟨v, H', os1, bare1, un, hok1, rv, q⟩ := h
    cases (show v = .bl true from q)
    obtain rfl : u = Value.bool true := rv
    refine ⟨rfl, OldK.of_keep fun b o e => ?_, os1, bare1⟩
    rcases only b with z | ⟨ob, xs, z⟩
    · exact un.keep b o e z (by intro y; exact absurd (show b ∈ ([] : List Addr) from y) (by simp)) (by simp)
    · obtain ⟨e1, _⟩ := hok b _ z
      obtain ⟨e2, _⟩ := hok1 b _ (un.frzs b ob _ z)
      rw [e] at e1
      cases e1
      exact e2
theorem lawG (kin : K.In s.heap) (glo : s.heap.Ns mainGlobals mg) (blt : s.heap.Ns builtinsNs mb) (bok : ∀ y : Str, y ≠ "__name__" → mb y = bootBuiltins y) (nol : s.heap.NoLimit) (gen : s.gens = #[])
    (ho : s.heap.get? a = some { cls := .type "list", data := .seq vs.toArray }) (hi : IntsAre vs ns) (hl : ns.length ≤ sizeLine) (hr : Room k callerA) (F : ∀ base : Heap, K.In base → base.Ns mainGlobals mg → FnG P w K mg base k fa fd [x] sp)
    (hb : ∀ (s : Shared) (u : Value), BindsTo s fd ⟨[u], []⟩ [(x, u)]) (hsp : ∀ H : Hp, Only H → SqL K H a (ns.map V.int) → sp [.ref a] H (fun v _ => v = .bl true) fun _ _ _ => False) :
    codeAny (model P w) callerA (.call (.ref fa) ⟨[.ref a], []⟩) (fun r s' => r = .ok (.ret (.bool true)) ∧ OldK s.heap s'.heap ∧ s'.os = s.os ∧ AllBare s'.gens) s := by
  have rv := vals_ints hi
  have ln := hi.length
  cases hk : K.lookup a with
  | some o =>
    have e := kin a o hk
    rw [ho] at e
    cases e
    have S : SqL K (fun _ => none) a (ns.map V.int) := .inr ⟨_, vs.toArray, _, hk, rfl, rfl, rfl, by rw [List.size_toArray, ln]; exact hl, by simpa using rv⟩
    have O : Only (fun _ => none) := fun _ => .inl rfl
    exact call_from kin glo blt bok nol gen ho hr F hb _ O (hsp _ O S) (fun b u z => nomatch (show (none : Option HO) = some u from z)) (fun b z => absurd rfl z) fun z => absurd rfl z
  | none =>
    have at_a : (fun b : Addr => if b = a then some (HO.frz { cls := .type "list", data := .seq vs.toArray } (.lst (ns.map V.int))) else none) a = some (HO.frz { cls := .type "list", data := .seq vs.toArray } (.lst (ns.map V.int))) := if_pos rfl
    have off : ∀ b : Addr, b ≠ a → (fun b : Addr => if b = a then some (HO.frz { cls := .type "list", data := .seq vs.toArray } (.lst (ns.map V.int))) else none) b = none := fun b n => if_neg n
    have O : Only (fun b : Addr => if b = a then some (HO.frz { cls := .type "list", data := .seq vs.toArray } (.lst (ns.map V.int))) else none) := fun b => by
      by_cases e : b = a
      · subst e
        exact .inr ⟨_, _, at_a⟩
      · exact .inl (off b e)
    refine call_from kin glo blt bok nol gen ho hr F hb _ O (hsp _ O (.inl (.inr ⟨_, at_a⟩))) (fun b u z => ?_) (fun b z => ?_) fun _ => hk
    · by_cases e : b = a
      · subst e
        have z1 := at_a.symm.trans z
        cases z1
        exact ⟨ho, by rw [List.length_map]; exact hl, vs, _, rv, ho⟩
      · have z1 := (off b e).symm.trans z
        cases z1
    · by_cases e : b = a
      · exact e
      · exact absurd (off b e) z
end
/-- the goal that k_head leaves, from the law's promise -/
theorem walkG {l : PySem.W.OpenLaw} {n k : Nat} {q : Program} {loose : List Str} {XP : (Str → Option Value) → Heap → Prop} {YP : World → Heap → Prop} {d : DefRec} {K : Params → PySem.W.Frag} {sp : PySem.W.Frag → Sp} {x : Str}
    (hn : l.most = some n) (hn2 : n ≤ sizeLine) (hdf : d.params.defaults = []) (hr : Room k callerA) (hY : ∀ (w : World) (h : Heap), YP w h → (K w.params).In h)
    (F : ∀ (w : World) (mg : Str → Option Value) (fa : Addr) (h : Heap), (K w.params).In h → h.Ns mainGlobals mg → mg d.name = some (.ref fa) →
      ∃ fd : FuncData, (∀ (s : Shared) (u : Value), BindsTo s fd ⟨[u], []⟩ [(x, u)]) ∧ ∀ base : Heap, (K w.params).In base → base.Ns mainGlobals mg → FnG l.prog w (K w.params) mg base k fa fd [x] (sp (K w.params)))
    (hsp : ∀ (K : PySem.W.Frag) (H : Hp) (a : Addr) (ns : List Int), ns.length ≤ n → Only H → SqL K H a (ns.map V.int) → sp K [.ref a] H (fun v _ => v = .bl true) fun _ _ _ => False) :
    PySem.W.WalkO q loose XP YP l.row.toRowW d [] (fun f vs => PySem.call f vs) := by
  refine Att.attach_call hn hdf fun w s0 s mg mb fa o pm cd doc a vs ns G Y ho hd hcd hmg hobj hints hlen hg => ?_
  have kin := hY w _ Y
  obtain ⟨fd, hb, hF⟩ := F w mg fa _ kin G.T.g hmg
  exact lawG kin G.T.g G.T.b G.T.builtins G.T.nolimit hg hobj hints (Nat.le_trans hlen hn2) hr hF hb fun H hO hS => hsp _ H a ns hlen hO hS
end WT
/-! Toolkit 7: built-in calls on numbers, and what they evaluate to. -/
namespace WT
open PySem PySem.Spec PyProof.Rows L2 Evl
abbrev rAbs : List V → Hp → VK → Prop := fun xs H Q => ∃ i, xs = [.int i] ∧ Q (.int (if i < 0 then -i else i)) H
abbrev rInt1 : List V → Hp → VK → Prop := fun xs H Q => (∃ i, xs = [.int i] ∧ Q (.int i) H) ∨ ∃ k, xs = [.bl k] ∧ Q (.int (if k then 1 else 0)) H
abbrev rMin2 : List V → Hp → VK → Prop := fun xs H Q => ∃ i j, xs = [.int i, .int j] ∧ Q (.int (if j < i then j else i)) H
section
variable {K : PySem.W.Frag} {σ : L2.St} {H H' : Hp} {ta tb tc te tl : TE} {tr : TA} {t u : TT} {d e : PyData} {ds es : List PyData} {v x y : V}
theorem ev_abs {i : Int} (h : Ev ta σ H (.int i)) : Ev (tCB rAbs (tCons ta tNil)) σ H (.int (if i < 0 then -i else i)) := fun H1 e Q q => h H1 e _ fun H2 e2 => ⟨i, rfl, q H2 e2⟩
theorem ev_int1 {i : Int} (h : Ev ta σ H (.int i)) : Ev (tCB rInt1 (tCons ta tNil)) σ H (.int i) := fun H1 e Q q => h H1 e _ fun H2 e2 => .inl ⟨i, rfl, q H2 e2⟩
theorem ev_intB {b : Bool} (h : Ev ta σ H (.bl b)) : Ev (tCB rInt1 (tCons ta tNil)) σ H (.int (if b then 1 else 0)) := fun H1 e Q q => h H1 e _ fun H2 e2 => .inr ⟨b, rfl, q H2 e2⟩
theorem ev_min2 {i j : Int} (ha : Ev ta σ H (.int i)) (hb : Ev tb σ H (.int j)) : Ev (tCB rMin2 (tCons ta (tCons tb tNil))) σ H (.int (if j < i then j else i)) := fun H1 e Q q =>
  ha H1 e _ fun H2 e2 => hb H2 (e.trans e2) _ fun H3 e3 => ⟨i, j, rfl, q H3 (e2.trans e3)⟩
/-- sum(xs[..]) of a list of ints made on the way -/
theorem ev_sumN {ns : List Int} (h : El K ta σ H (ns.map PyData.int)) : Ev (tCB (rSum K) (tCons ta tNil)) σ H (.int ns.sum) := fun H1 e Q q => h H1 e _ fun p xs H2 _ e2 hx f => by
  rw [fzl_ints.mp f] at hx
  exact ⟨p, ns, rfl, sq_of hx, q H2 e2⟩
theorem cutV_take {xs : List V} {n : Nat} : cutV xs none (some (n : Int)) = xs.take n := by
  unfold cutV
  rw [HT.sIx_none, show HT.sIx xs.length xs.length (some (n : Int)) = min n xs.length from HT.sIx_nat xs.length xs.length n, List.drop_zero, Nat.sub_zero]
  by_cases h : n ≤ xs.length
  · rw [Nat.min_eq_left h]
  · rw [Nat.min_eq_right (by omega), List.take_of_length_le (Nat.le_refl _), List.take_of_length_le (by omega)]
theorem cutV_all {xs : List V} : cutV xs none none = xs := by
  unfold cutV
  rw [HT.sIx_none, HT.sIx_none, List.drop_zero, Nat.sub_zero, List.take_of_length_le (Nat.le_refl _)]
theorem el_slice {p : Addr} {xs : List V} {tlo thi : TO} {lo hi : Option Int} (h : Ev ta σ H (.ref p)) (h1 : EvO tlo σ H lo) (h2 : EvO thi σ H hi) (hp : SqL K H p xs) (hf : FzL K H ds (cutV xs lo hi)) : El K (tSl (rSlL K) ta tlo thi) σ H ds := fun H1 e Q q =>
  el_sl h h1 h2 hp H1 e Q fun l H2 hl e2 hx => q l _ H2 hl e2 hx (fzl_ex (e.trans e2) hf)
theorem ev_val {te : TE} (h : Ev te σ H v) (e : v = x) : Ev te σ H x := e ▸ h
/-- a op1 b op2 c of ints -/
theorem ev_chain {p q : Int → Int → Bool} {i j k : Int} (ha : Ev ta σ H (.int i)) (hb : Ev tb σ H (.int j)) (hc : Ev tc σ H (.int k)) : Ev (tChain (rI0 fun i j => .bl (p i j)) (rI0 fun i j => .bl (q i j)) ta tb tc) σ H (.bl (p i j && q j k)) := fun H1 e Q z =>
  ha H1 e _ fun H2 e2 => hb H2 (e.trans e2) _ fun H3 e3 => ⟨i, j, rfl, rfl, p i j, rfl, by
    cases hp : p i j with
    | true =>
      rw [hp] at z
      refine iteT (hc H3 ((e.trans e2).trans e3) _ fun H4 e4 => ⟨j, k, rfl, rfl, ?_⟩)
      exact z H4 ((e2.trans e3).trans e4)
    | false =>
      rw [hp] at z
      exact iteF (z H3 (e2.trans e3))⟩
theorem ev_listRg {n : Nat} (h : Ev te σ H (.int (n : Int))) (hn : n ≤ 100000) : El K (tLstRg (tRg1 te)) σ H ((List.range n).map fun i : Nat => PyData.int (i : Int)) := fun H1 e Q q =>
  h H1 e _ fun H2 e2 => ⟨n, rfl, RgOk.of_le (by omega) (by omega) (by omega) (by omega), fun p hp => q p _ _ (fresh_back e2 hp) (e2.trans (Ex.new hp)) upd_same (by
    have ee : rgV 0 (n : Int) = vN (List.range n) := by
      unfold rgV vN
      rw [Int.sub_zero, Int.toNat_natCast]
      refine List.map_congr_left fun i _ => ?_
      rw [Int.zero_add]
    rw [ee]
    exact fzl_nats.mpr rfl)⟩
theorem ed_tupRg {n : Nat} (h : Ev te σ H (.int (n : Int))) (hn : n ≤ 100000) : Ed K (tTupRg (tRg1 te)) σ H (tN (List.range n)) := fun H1 e Q q =>
  h H1 e _ fun H2 e2 => ⟨n, rfl, RgOk.of_le (by omega) (by omega) (by omega) (by omega), fun p hp => q (.ref p) _ (e2.trans (Ex.new hp)) (by
    have ee : rgV 0 (n : Int) = vN (List.range n) := by
      unfold rgV vN
      rw [Int.sub_zero, Int.toNat_natCast]
      refine List.map_congr_left fun i _ => ?_
      rw [Int.zero_add]
    rw [ee]
    exact fz_tN.mpr ⟨p, rfl, upd_same⟩)⟩
/-- isinstance(x, T), T a built-in class -/
theorem ev_isi {A T : String} {r : Bool} (h : Ev ta σ H x) (hx : ∀ H1, Ex H H1 → TyX K H1 x (.type A)) (hr : kitB A T = some r) : Ev (tCB (rIsi K) (tCons ta (tCons (tC (.ty T)) tNil))) σ H (.bl r) := fun H1 e Q q =>
  h H1 e _ fun H2 e2 => ⟨x, .ty T, .type A, .type T, r, rfl, .ty T, hx H2 (e.trans e2), kit_ty hr, q H2 e2⟩
theorem tyx_tup {a : Addr} {xs : List V} (h : SqT K H a xs) : TyX K H (.ref a) (.type "tuple") := by
  rcases h with (h | ⟨o, h⟩) | ⟨o, its, n, h1, h2, _⟩
  · exact .base (.tup h)
  · exact .fTuple h
  · exact .kTuple h1 h2
theorem ev_isiD {A T : String} {r : Bool} (h : Ed K ta σ H d) (hx : ∀ H1 v, Fz K H1 d v → TyX K H1 v (.type A)) (hr : kitB A T = some r) : Ev (tCB (rIsi K) (tCons ta (tCons (tC (.ty T)) tNil))) σ H (.bl r) := fun H1 e Q q =>
  h H1 e _ fun v H2 e2 f => ⟨v, .ty T, .type A, .type T, r, rfl, .ty T, hx H2 v f, kit_ty hr, q H2 e2⟩
theorem ev_isiT {T : String} {r : Bool} (h : Ed K ta σ H (.tuple ds)) (hr : kitB "tuple" T = some r) : Ev (tCB (rIsi K) (tCons ta (tCons (tC (.ty T)) tNil))) σ H (.bl r) :=
  ev_isiD h (fun H1 v f => by
    obtain ⟨a, xs, rfl, hs, _⟩ := fz_tupI f
    exact tyx_tup hs) hr
theorem ev_isiI {i : Int} {T : String} {r : Bool} (h : Ev ta σ H (.int i)) (hr : kitB "int" T = some r) : Ev (tCB (rIsi K) (tCons ta (tCons (tC (.ty T)) tNil))) σ H (.bl r) := ev_isi h (fun H1 _ => .base (.int i)) hr
theorem ev_isiB {i : Bool} {T : String} {r : Bool} (h : Ev ta σ H (.bl i)) (hr : kitB "bool" T = some r) : Ev (tCB (rIsi K) (tCons ta (tCons (tC (.ty T)) tNil))) σ H (.bl r) := ev_isi h (fun H1 _ => .base (.bl i)) hr
theorem ev_isiS {i : Str} {T : String} {r : Bool} (h : Ev ta σ H (.str i)) (hr : kitB "str" T = some r) : Ev (tCB (rIsi K) (tCons ta (tCons (tC (.ty T)) tNil))) σ H (.bl r) := ev_isi h (fun H1 _ => .base (.str i)) hr
/-- x in t, x not in t: t a tuple of naturals, of ints -/
theorem inV_ints (i : Int) : ∀ ns : List Int, inV (.int i) (ns.map V.int) = decide (i ∈ ns)
  | [] => rfl
  | n :: ns => by
    show (eqV (.int n) (.int i) || inV (.int i) (ns.map V.int)) = _
    rw [inV_ints i ns]
    have e1 : eqV (.int n) (.int i) = decide (n = i) := by
      show (n == i) = _
      cases h : (n == i) with
      | true => rw [beq_iff_eq.mp h]; simp
      | false => simp [beq_eq_false_iff_ne.mp h]
    rw [e1]
    by_cases h : n = i
    · simp [h]
    · have h' : ¬ i = n := fun z => h z.symm
      simp [h, h']
theorem ev_inT {neg : Bool} {i : Int} {ns : List Int} (h : Ev ta σ H (.int i)) (k : Ed K tb σ H (.tuple (ns.map PyData.int))) : Ev (tOp (rIn K neg) ta tb) σ H (.bl (if neg then !decide (i ∈ ns) else decide (i ∈ ns))) := fun H1 e Q q =>
  h H1 e _ fun H2 e2 => k H2 (e.trans e2) _ fun w H3 e3 g => by
    obtain ⟨a, xs, rfl, hs, hf⟩ := fz_tupI g
    rw [fzl_ints.mp hf] at hs
    refine ⟨a, _, rfl, .inr hs, rfl, ?_, ?_⟩
    · rw [List.all_eq_true]
      intro z hz
      obtain ⟨n, _, rfl⟩ := List.mem_map.mp hz
      rfl
    · rw [inV_ints]
      exact q H3 (e2.trans e3)
/-- d in l, d not in l: a list of plain data that stands -/
theorem fzl_dpl {p : Addr} {xs : List V} (h : SqL K H p xs) (f : FzL K H ds xs) : Dp K H (.ref p) (.list ds) := .lst h (fzl_dp _ _ f)
theorem shaped_list {n : Nat} (h : ∀ d ∈ ds, plain d = true ∧ d.depth ≤ n) (hn : n ≤ 60) : SeqAt.shaped (.list ds) = true := by
  unfold SeqAt.shaped
  have h1 : (PyData.list ds).canLay0 = true := by
    simp only [PyData.canLay0]
    exact plain_layL _ (plainL_all fun d hd => (h d hd).1)
  have h2 : (PyData.list ds).depth ≤ 64 := by
    simp only [PyData.depth]
    have := depthAll_le (ds := ds) fun d hd => (h d hd).2
    omega
  rw [h1, decide_eq_true h2]
  rfl
theorem ev_inLd {p : Addr} {xs : List V} {n : Nat} (h : Ed K ta σ H d) (k : Ev tb σ H (.ref p)) (hp : SqL K H p xs) (f : FzL K H ds xs) (pd : Plain d) (ps : ∀ d ∈ ds, plain d = true ∧ d.depth ≤ n) (hn : n ≤ 60) : Ev (tOp (rInD K) ta tb) σ H (.bl (ds.any fun z => PyData.eqv z d)) := fun H1 e Q q =>
  h H1 e _ fun v H2 e2 g => k H2 (e.trans e2) _ fun H3 e3 => ⟨d, ds, fz_dp _ _ (fz_ex e3 g), fzl_dpl (ex_l ((e.trans e2).trans e3) hp) (fzl_ex ((e.trans e2).trans e3) f), pd.shaped, shaped_list ps hn, q H3 (e2.trans e3)⟩
theorem ev_notInLd {p : Addr} {xs : List V} {n : Nat} (h : Ed K ta σ H d) (k : Ev tb σ H (.ref p)) (hp : SqL K H p xs) (f : FzL K H ds xs) (pd : Plain d) (ps : ∀ d ∈ ds, plain d = true ∧ d.depth ≤ n) (hn : n ≤ 60) : Ev (tOp (rNotInD K) ta tb) σ H (.bl (!ds.any fun z => PyData.eqv z d)) := fun H1 e Q q =>
  h H1 e _ fun v H2 e2 g => k H2 (e.trans e2) _ fun H3 e3 => ⟨d, ds, fz_dp _ _ (fz_ex e3 g), fzl_dpl (ex_l ((e.trans e2).trans e3) hp) (fzl_ex ((e.trans e2).trans e3) f), pd.shaped, shaped_list ps hn, q H3 (e2.trans e3)⟩
/-- repr(d) -/
theorem ev_repr (h : Ed K ta σ H d) (hs : d.showable = true) (hd : d.depth ≤ 50) (hz : d.shown.length ≤ sizeLine) : Ev (tCB (rReprD K) (tCons ta tNil)) σ H (.str d.shown) := fun H1 e Q q => h H1 e _ fun v H2 e2 f => ⟨v, d, rfl, f, hs, hd, hz, q H2 e2⟩
/-- len(set(t)) of unlike naturals -/
theorem ev_lenSet {ns : List Int} (h : Ed K ta σ H (.tuple (ns.map PyData.int))) (hl : ns.length ≤ 1000) (c : Nat) (hc : ∀ l : List Int, l.Nodup → (∀ k, k ∈ l ↔ k ∈ ns) → l.length = c) : Ev (tLenSetT K ta) σ H (.int (c : Int)) := fun H1 e Q q => h H1 e _ fun v H2 e2 f => by
  obtain ⟨a, xs, rfl, hs, hf⟩ := fz_tupI f
  rw [fzl_ints.mp hf] at hs
  exact ⟨a, ns, rfl, hs, hl, fun l h1 h2 => by rw [hc l h1 h2]; exact q H2 e2⟩
theorem nodup_len {l m : List Int} (h1 : l.Nodup) (h2 : m.Nodup) (h : ∀ k, k ∈ l ↔ k ∈ m) : l.length = m.length := ((List.perm_ext_iff_of_nodup h1 h2).mpr h).length_eq
/-- min([..]) of data -/
theorem ed_minN (h : El K ta σ H (d :: ds)) (ha : PySem.W.AlikeAll (d :: ds)) (hd : PyData.depthAll (d :: ds) ≤ 50) : Ed K (tCB (rMinD K) (tCons ta tNil)) σ H (PySem.W.minD d ds) := fun H1 e Q q => h H1 e _ fun p xs H2 _ e2 hx f =>
  ⟨p, xs, d, ds, rfl, sq_of hx, f, ha, hd, fun v hv => q v H2 e2 hv⟩
/-- t < u of tuples of ints -/
theorem ev_ltT {ns ms : List Int} (h : Ed K ta σ H (.tuple (ns.map PyData.int))) (k : Ed K tb σ H (.tuple (ms.map PyData.int))) : Ev (tOp (rLtT K) ta tb) σ H (.bl (HT.lexLt ns ms)) := fun H1 e Q q =>
  h H1 e _ fun v H2 e2 f => k H2 (e.trans e2) _ fun w H3 e3 g => by
    obtain ⟨a, xs, rfl, hs, hf⟩ := fz_tupI (fz_ex e3 f)
    obtain ⟨b, ys, rfl, hs', hf'⟩ := fz_tupI g
    rw [fzl_ints.mp hf] at hs
    rw [fzl_ints.mp hf'] at hs'
    exact ⟨a, b, ns, ms, rfl, rfl, hs, hs', q H3 (e2.trans e3)⟩
/-- t + u -/
theorem ed_catA (h : Ed K ta σ H (.tuple ds)) (k : Ed K tb σ H (.tuple es)) (hl : ds.length + es.length ≤ 100000) : Ed K (tOp (rCatA K) ta tb) σ H (.tuple (ds ++ es)) := fun H1 e Q q =>
  h H1 e _ fun v H2 e2 f => k H2 (e.trans e2) _ fun w H3 e3 g => by
    obtain ⟨a, xs, rfl, hs, hf⟩ := fz_tupS (fz_ex e3 f)
    obtain ⟨b, ys, rfl, hs', hf'⟩ := fz_tupS g
    refine ⟨a, b, xs, ys, rfl, rfl, st_of hs, st_of hs', sz_of (by rw [fzl_len hf, fzl_len hf']; exact hl), fun h1 => ?_, fun _ h1 => ?_, fun _ _ p hp => ?_⟩
    · subst h1
      have := fzl_len hf
      have z : ds = [] := List.eq_nil_of_length_eq_zero this.symm
      subst z
      exact q _ H3 (e2.trans e3) (fz_tup hs' hf')
    · subst h1
      have := fzl_len hf'
      have z : es = [] := List.eq_nil_of_length_eq_zero this.symm
      subst z
      exact q _ H3 (e2.trans e3) (by rw [List.append_nil]; exact fz_tup hs hf)
    · exact q (.ref p) _ ((e2.trans e3).trans (Ex.new hp)) (fz_tup upd_same (fzl_ex (Ex.new hp) (fzl_append hf hf')))
/-- an assignment of something of a kind -/
theorem q_asgX {Dn : Ends} {tz : TS} {i : Nat} {P : V → Prop} (h : ∃ v, P v ∧ Ev te σ H v) (k : ∀ v, P v → ∀ H1, Ex H H1 → tz Dn (σ.set i (some v)) H1) : tSeq (tAsg te (gName i)) tz Dn σ H := by
  obtain ⟨v, p, e⟩ := h
  exact q_asg e (k v p)
theorem cMulL {i j : Int} (h : -(2 ^ 64) < i ∧ i < 2 ^ 64) : CMul i j := .inl h
theorem cMulR {i j : Int} (h : -(2 ^ 64) < j ∧ j < 2 ^ 64) : CMul i j := .inr h
theorem ints_take {ns : List Int} {n : Nat} : FzL K H ((ns.take n).map PyData.int) (cutV (ns.map V.int) none (some (n : Int))) := by
  rw [cutV_take, ← List.map_take]
  exact fzl_ints.mpr rfl
end
end WT
/-! Toolkit 8: comprehensions as map and filter; a draw in the midst of an expression. -/
namespace WT
open PySem PySem.Spec PyProof.Rows L2 Evl
section
variable {K : PySem.W.Frag} {σ : L2.St} {H H' : Hp} {ta tb tc te tl : TE} {tr : TA} {t u tt : TT} {d e : PyData} {ds es : List PyData} {v x y : V}
theorem el_is (h : El K te σ H ds) (e : ds = es) : El K te σ H es := e ▸ h
theorem ea_is {as bs : List Ag} (h : Ea K tr σ H as) (e : as = bs) : Ea K tr σ H bs := e ▸ h
theorem elr_is {rs ss : List (List PyData)} (h : ElR K te σ H rs) (e : rs = ss) : ElR K te σ H ss := e ▸ h
theorem take_get {α : Type} {l : List α} {i : Nat} {x : α} (h : l[i]? = some x) : l.take (i + 1) = l.take i ++ [x] := by
  rw [List.take_succ, h]
  rfl
theorem get_of_len {α β : Type} {l : List α} {m : List β} {i : Nat} {x : α} (h : l[i]? = some x) (hl : m.length = l.length) : ∃ y, m[i]? = some y := by
  have := (List.getElem?_eq_some_iff.mp h).1
  exact ⟨m[i]'(by omega), List.getElem?_eq_getElem _⟩
theorem filter_get {α β : Type} {l : List α} {p : α → Bool} {g : α → β} {i : Nat} {x : α} (h : l[i]? = some x) (hp : p x = true) : ((l.take (i + 1)).filter p).map g = ((l.take i).filter p).map g ++ [g x] := by
  rw [take_get h, List.filter_append, List.map_append]
  simp [hp]
theorem filter_not {α β : Type} {l : List α} {p : α → Bool} {g : α → β} {i : Nat} {x : α} (h : l[i]? = some x) (hp : p x = false) : ((l.take (i + 1)).filter p).map g = ((l.take i).filter p).map g := by
  rw [take_get h, List.filter_append, List.map_append]
  simp [hp]
theorem filter_len {α β : Type} {l : List α} {p : α → Bool} {g : α → β} {i n : Nat} (h : l.length ≤ n) : (((l.take i).filter p).map g).length ≤ n := by
  rw [List.length_map]
  refine Nat.le_trans (List.length_filter_le _ _) ?_
  rw [List.length_take]
  omega
/-- [e for x in t] -/
theorem el_mapT {j : Nat} {vs : List Nat} (h : Ed K tl σ H (.tuple ds)) (hn : ds.length ≤ 50000) (hl : es.length = ds.length) (hw : ∀ x, wipe ((wipe σ vs).set j (some x)) vs = wipe σ vs)
    (hs : ∀ (i : Nat) (x : V) d e H1, Ex H H1 → ds[i]? = some d → es[i]? = some e → Fz K H1 d x → Ed K te ((wipe σ vs).set j (some x)) H1 e) :
    El K (tLc (iTup K tl) (gName j) tYes te vs) σ H es := el_is (el_lcTd (out := fun i => es.take i) h rfl (fun i hi => by rw [List.length_take]; omega) hw fun i x d H1 e1 hd f => by
  obtain ⟨e, he⟩ := get_of_len hd hl
  exact turn_all et_yes (hs i x d e H1 e1 hd he f) (take_get he)) (by rw [List.take_of_length_le (by omega)])
/-- [e for x in xs] -/
theorem el_mapL {j : Nat} {vs : List Nat} {a : Addr} {xs : List V} (h : Ev tl σ H (.ref a)) (hx : SqL K H a xs) (hf : FzL K H ds xs) (hn : ds.length ≤ 50000) (hl : es.length = ds.length) (hw : ∀ x, wipe ((wipe σ vs).set j (some x)) vs = wipe σ vs)
    (hs : ∀ (i : Nat) (x : V) d e H1, Ex H H1 → ds[i]? = some d → es[i]? = some e → Fz K H1 d x → Ed K te ((wipe σ vs).set j (some x)) H1 e) :
    El K (tLc (iList K tl) (gName j) tYes te vs) σ H es := el_is (el_lcLd (out := fun i => es.take i) h hx hf rfl (fun i hi => by rw [List.length_take]; omega) hw fun i x d H1 e1 hd f => by
  obtain ⟨e, he⟩ := get_of_len hd hl
  exact turn_all et_yes (hs i x d e H1 e1 hd he f) (take_get he)) (by rw [List.take_of_length_le (by omega)])
/-- [e for x in xs if c] -/
theorem el_filtL {j : Nat} {vs : List Nat} {a : Addr} {xs : List V} (p : PyData → Bool) (g : PyData → PyData) (h : Ev tl σ H (.ref a)) (hx : SqL K H a xs) (hf : FzL K H ds xs) (hn : ds.length ≤ 50000) (hw : ∀ x, wipe ((wipe σ vs).set j (some x)) vs = wipe σ vs)
    (hs : ∀ (i : Nat) (x : V) d H1, Ex H H1 → ds[i]? = some d → Fz K H1 d x → EvT tt ((wipe σ vs).set j (some x)) H1 (p d) ∧ (p d = true → Ed K te ((wipe σ vs).set j (some x)) H1 (g d))) :
    El K (tLc (iList K tl) (gName j) tt te vs) σ H ((ds.filter p).map g) := el_is (el_lcLd (out := fun i => ((ds.take i).filter p).map g) h hx hf rfl (fun i hi => Nat.lt_of_le_of_lt (filter_len hn) (by decide)) hw fun i x d H1 e1 hd f => by
  obtain ⟨h1, h2⟩ := hs i x d H1 e1 hd f
  exact ⟨_, h1, fun z => ⟨_, h2 z, filter_get hd z⟩, fun z => filter_not hd z⟩) (by rw [List.take_of_length_le (Nat.le_refl _)])
/-- [e for x in range(n)] -/
theorem el_mapR {ta : TA} {j n : Nat} {vs : List Nat} (h : EvA ta σ H [.int (n : Int)]) (hn : n ≤ 40000) (hl : es.length = n) (hw : ∀ x, wipe ((wipe σ vs).set j (some x)) vs = wipe σ vs)
    (hs : ∀ (i : Nat) e H1, Ex H H1 → i < n → es[i]? = some e → Ed K te ((wipe σ vs).set j (some (.int (i : Int)))) H1 e) :
    El K (tLc (iRng1 ta) (gName j) tYes te vs) σ H es := el_is (el_lcRd (out := fun i => es.take i) h hn rfl (fun i hi => by rw [List.length_take]; omega) hw fun i H1 e1 hi => by
  have he : es[i]? = some (es[i]'(by omega)) := List.getElem?_eq_getElem _
  exact turn_all et_yes (hs i _ H1 e1 hi he) (take_get he)) (by rw [List.take_of_length_le (by omega)])
/-- [e for x in range(n) if c] -/
theorem el_filtR {ta : TA} {j n : Nat} {vs : List Nat} (p : Nat → Bool) (g : Nat → PyData) (h : EvA ta σ H [.int (n : Int)]) (hn : n ≤ 40000) (hw : ∀ x, wipe ((wipe σ vs).set j (some x)) vs = wipe σ vs)
    (hs : ∀ (i : Nat) H1, Ex H H1 → i < n → EvT tt ((wipe σ vs).set j (some (.int (i : Int)))) H1 (p i) ∧ (p i = true → Ed K te ((wipe σ vs).set j (some (.int (i : Int)))) H1 (g i))) :
    El K (tLc (iRng1 ta) (gName j) tt te vs) σ H (((List.range n).filter p).map g) := el_is (el_lcRd (out := fun i => (((List.range n).take i).filter p).map g) h hn rfl (fun i hi => Nat.lt_of_le_of_lt (filter_len (n := 40000) (by rw [List.length_range]; exact hn)) (by decide)) hw fun i H1 e1 hi => by
  obtain ⟨h1, h2⟩ := hs i H1 e1 hi
  have he : (List.range n)[i]? = some i := by rw [List.getElem?_range hi]
  exact ⟨_, h1, fun z => ⟨_, h2 z, filter_get he z⟩, fun z => filter_not he z⟩) (by rw [List.take_of_length_le (by rw [List.length_range]; exact Nat.le_refl _)])
theorem tN_get {ns : List Nat} {i : Nat} {d : PyData} (h : (ns.map fun n : Nat => PyData.int (n : Int))[i]? = some d) : ∃ n : Nat, ns[i]? = some n ∧ d = .int (n : Int) := by
  rw [List.getElem?_map] at h
  cases hn : ns[i]? with
  | none => rw [hn] at h; cases h
  | some n => rw [hn] at h; exact ⟨n, rfl, (Option.some.inj h).symm⟩
theorem map_get {α β : Type} {f : α → β} {l : List α} {i : Nat} {y : β} (h : (l.map f)[i]? = some y) : ∃ x, l[i]? = some x ∧ y = f x := by
  rw [List.getElem?_map] at h
  cases hn : l[i]? with
  | none => rw [hn] at h; cases h
  | some n => rw [hn] at h; exact ⟨n, rfl, (Option.some.inj h).symm⟩
end
section
variable {X : Cx} {K : PySem.W.Frag}
/-! rules within a comprehension, said of the outer fragment -/
theorem oK {f : Value → Value → Sem Value} {r : PySem.W.Frag → R2} (h : OpR X f (r X.K)) (e : X.K = K) : OpR X f (r K) := e ▸ h
theorem cK {f : Value} {r : PySem.W.Frag → List V → Hp → VK → Prop} (h : CallR X f (r X.K)) (e : X.K = K) : CallR X f (r K) := e ▸ h
theorem xK {r : PySem.W.Frag → R2} (h : IxR X (r X.K)) (e : X.K = K) : IxR X (r K) := e ▸ h
theorem sK {r : PySem.W.Frag → V → Option Int → Option Int → Hp → VK → Prop} (h : SlR X (r X.K)) (e : X.K = K) : SlR X (r K) := e ▸ h
end
section
variable {σ : L2.St} {H : Hp} {te ta : TE} {tr : TA} {tz : TS} {Dn : Ends} {Q : VK}
/-! readings opened -/
theorem q_parM {i j : Nat} (h : tr σ H fun vs H1 => ∃ v w, vs = [v, w] ∧ tz Dn ((σ.set i (some v)).set j (some w)) H1) : tSeq (tPar i j tr) tz Dn σ H := h
theorem s_parM {i j : Nat} (h : tr σ H fun vs H1 => ∃ v w, vs = [v, w] ∧ Dn.nx ((σ.set i (some v)).set j (some w)) H1) : tPar i j tr Dn σ H := h
theorem c_cons {R : List V → Hp → Prop} (h : te σ H fun x H1 => tr σ H1 fun xs H2 => R (x :: xs) H2) : tCons te tr σ H R := h
theorem c_nil {R : List V → Hp → Prop} (h : R [] H) : tNil σ H R := h
theorem c_cb {r : List V → Hp → VK → Prop} (h : tr σ H fun vs H1 => r vs H1 Q) : tCB r tr σ H Q := h
theorem c_op {r : R2} (h : te σ H fun x H1 => ta σ H1 fun y H2 => r x y H2 Q) : tOp r te ta σ H Q := h
theorem c_call {sp : Sp} {E : XK} (h : tr σ H fun vs H1 => sp vs H1 Q E) : tCall sp [] E tr σ H Q := by
  show tr σ H fun vs H1 => sp (vs ++ []) H1 Q E
  rw [show (fun vs H1 => sp (vs ++ []) H1 Q E) = fun vs H1 => sp vs H1 Q E from by funext vs H1; rw [List.append_nil]]
  exact h
theorem q_asgM {g : TG} (h : te σ H fun x H1 => g x σ H1 (tz Dn)) : tSeq (tAsg te g) tz Dn σ H := h
theorem s_asgM {g : TG} (h : te σ H fun x H1 => g x σ H1 Dn.nx) : tAsg te g Dn σ H := h
theorem q_dropM (h : te σ H fun _ H1 => tz Dn σ H1) : tSeq (tDrop te) tz Dn σ H := h
theorem s_dropM (h : te σ H fun _ H1 => Dn.nx σ H1) : tDrop te Dn σ H := h
theorem s_retM (h : te σ H Dn.rt) : tRet te Dn σ H := h
theorem c_bm {K : PySem.W.Frag} {T : String} {r : V → List V → Hp → VK → Prop} (h : te σ H fun x H1 => tyV K T x H1 ∧ tr σ H1 fun xs H2 => r x xs H2 Q) : tBM K T r te tr σ H Q := h
end
end WT
/-! Toolkit 9: enumerate of a list; a list drawn first; permutations. -/
namespace WT
open PySem PySem.Spec PyProof.Rows L2 Evl
section
variable {K : PySem.W.Frag} {σ : L2.St} {H H' : Hp} {ta tb tc te tl : TE} {tr : TA} {t u tt : TT} {d e : PyData} {ds es : List PyData} {v x y : V} {g : TG} {tu tz : TS} {Dn : Ends}
/-- for i, x in enumerate(xs), xs a list that stands -/
theorem s_forEnL {i j : Nat} {a : Addr} {xs : List V} (h : Ev tl σ H (.ref a)) (hx : SqL K H a xs) (k : ∀ H1, Ex H H1 → ∃ Pv : Nat → L2.St → Hp → Prop, Pv 0 σ H1 ∧ (∀ n σ' H', Pv n σ' H' → SqL K H' a xs) ∧
    (∀ n x σ' H' H'', xs[n]? = some x → Ex H' H'' → Pv n σ' H' → tu { Dn with nx := Pv (n + 1), ct := Pv (n + 1), bk := Dn.nx } ((σ'.set i (some (.int (n : Int)))).set j (some x)) H'') ∧
    ∀ σ' H', Pv xs.length σ' H' → Dn.nx σ' H') : tFor (iEnum K (tCons tl tNil)) (g2 K i j) tu Dn σ H :=
  h H (Ex.refl H) _ fun H1 e => by
    obtain ⟨Pv, h0, hT, hb, hd⟩ := k H1 e
    refine ⟨a, xs, rfl, ex_l e hx, for_it (walk_enum (xs := xs)) Pv h0 (fun n σ' H' _ p => hT n σ' H' p) (fun n v σ' H' H'' hn p hy => ?_) hd⟩
    obtain ⟨T, x, y, rfl, hT0, rfl, ex, ey⟩ := hy
    cases (Option.some.inj ex)
    exact g2_pair upd_same (hb n y σ' H' _ ey (Ex.new hT0) p)
theorem q_forEnL {i j : Nat} {a : Addr} {xs : List V} (h : Ev tl σ H (.ref a)) (hx : SqL K H a xs) (k : ∀ H1, Ex H H1 → ∃ Pv : Nat → L2.St → Hp → Prop, Pv 0 σ H1 ∧ (∀ n σ' H', Pv n σ' H' → SqL K H' a xs) ∧
    (∀ n x σ' H' H'', xs[n]? = some x → Ex H' H'' → Pv n σ' H' → tu { Dn with nx := Pv (n + 1), ct := Pv (n + 1), bk := tz Dn } ((σ'.set i (some (.int (n : Int)))).set j (some x)) H'') ∧
    ∀ σ' H', Pv xs.length σ' H' → tz Dn σ' H') : tSeq (tFor (iEnum K (tCons tl tNil)) (g2 K i j) tu) tz Dn σ H := s_forEnL (Dn := { Dn with nx := tz Dn }) h hx k
/-- a comprehension over a list that is made first -/
theorem c_lcList {vs : List Nat} {Q : VK} (h : tl σ H fun x H1 => ∃ a, x = .ref a ∧ tLc (iList K (tC (.ref a))) g tt te vs σ H1 Q) : tLc (iList K tl) g tt te vs σ H Q := by
  unfold tLc iList at h ⊢
  have e : (fun (x : V) (H1 : Hp) => ∃ a, x = V.ref a ∧ tC (.ref a) σ H1 fun x H1 => ∃ a, x = .ref a ∧ (∃ xs, SqL K H1 a xs) ∧ ∀ D, H1 D = none → ∃ W : Nat → Nat → Hp → Prop, (∃ m, W 0 m (upd H1 D (.lst []))) ∧ ∀ i m H, W i m H →
      ((Itl K a).stop i H ∧ Q (.ref D) H) ∨ ((Itl K a).go i H ∧ ∃ Nx : Hp → Prop, (∀ H', Nx H' → ∃ m', m' < m ∧ W (i + 1) m' H') ∧ ∀ x H', (Itl K a).yld i H x H' → g x (wipe σ vs) H' fun σ2 H2 => wipe σ2 vs = wipe σ vs ∧ tt σ2 H2 fun b H3 =>
        if b = true then te σ2 H3 fun y H4 => ∃ acc, H4 D = some (.lst acc) ∧ acc.length < sizeLine ∧ Nx (upd H4 D (.lst (acc ++ [y]))) else Nx H3)) =
    fun (x : V) (H1 : Hp) => ∃ a, x = .ref a ∧ (∃ xs, SqL K H1 a xs) ∧ ∀ D, H1 D = none → ∃ W : Nat → Nat → Hp → Prop, (∃ m, W 0 m (upd H1 D (.lst []))) ∧ ∀ i m H, W i m H →
      ((Itl K a).stop i H ∧ Q (.ref D) H) ∨ ((Itl K a).go i H ∧ ∃ Nx : Hp → Prop, (∀ H', Nx H' → ∃ m', m' < m ∧ W (i + 1) m' H') ∧ ∀ x H', (Itl K a).yld i H x H' → g x (wipe σ vs) H' fun σ2 H2 => wipe σ2 vs = wipe σ vs ∧ tt σ2 H2 fun b H3 =>
        if b = true then te σ2 H3 fun y H4 => ∃ acc, H4 D = some (.lst acc) ∧ acc.length < sizeLine ∧ Nx (upd H4 D (.lst (acc ++ [y]))) else Nx H3) := by
    funext x H1
    refine propext ⟨?_, ?_⟩
    · rintro ⟨a, rfl, b, hb, k⟩
      cases hb
      exact ⟨a, rfl, k⟩
    · rintro ⟨a, rfl, k⟩
      exact ⟨a, rfl, a, rfl, k⟩
  rw [e] at h
  exact h
theorem fzl_erase {ds : List PyData} {xs : List V} (h : FzL K H ds xs) (k : Nat) : FzL K H (ds.eraseIdx k) (xs.eraseIdx k) := by
  rw [List.eraseIdx_eq_take_drop_succ, List.eraseIdx_eq_take_drop_succ]
  exact fzl_append (fzl_take k h) (fzl_drop (k + 1) h)
end
theorem erase_perm {α : Type} : ∀ {l : List α} {k : Nat} {x : α}, l[k]? = some x → (x :: l.eraseIdx k).Perm l
  | [], _, _, h => by simp at h
  | y :: l, 0, x, h => by
    cases (Option.some.inj h)
    exact .refl _
  | y :: l, k + 1, x, h => (List.Perm.swap y x _).trans ((erase_perm (l := l) (k := k) (by simpa using h)).cons y)
/-- unlike naturals below m are at most m -/
theorem nd_le : ∀ {m : Nat} {l : List Nat}, l.Nodup → (∀ x ∈ l, x < m) → l.length ≤ m
  | 0, [], _, _ => Nat.le_refl _
  | 0, x :: _, _, h => absurd (h x List.mem_cons_self) (Nat.not_lt_zero _)
  | m + 1, l, nd, h => by
    by_cases hm : m ∈ l
    · have h1 := nd_le (m := m) (l := l.erase m) (nd.erase m) fun x hx => by
        have h2 := h x (List.mem_of_mem_erase hx)
        have h3 : x ≠ m := (nd.mem_erase_iff.mp hx).1
        omega
      rw [List.length_erase_of_mem hm] at h1
      omega
    · have h1 := nd_le (m := m) (l := l) nd fun x hx => by
        have h2 := h x hx
        have h3 : x ≠ m := fun z => hm (z ▸ hx)
        omega
      omega
/-- unlike naturals below m, m of them, are all of them -/
theorem perm_of {m : Nat} {l : List Nat} (nd : l.Nodup) (h : ∀ x ∈ l, x < m) (hl : l.length = m) : l.Perm (List.range m) := by
  refine (List.perm_ext_iff_of_nodup nd List.nodup_range).mpr fun x => ⟨fun hx => List.mem_range.mpr (h x hx), fun hx => ?_⟩
  by_cases hm : x ∈ l
  · exact hm
  · have h1 := nd_le (m := m) (l := x :: l) (List.nodup_cons.mpr ⟨hm, nd⟩) fun y hy => by
      rcases List.mem_cons.mp hy with z | z
      · exact z ▸ List.mem_range.mp hx
      · exact h y z
    rw [List.length_cons] at h1
    omega
section
variable {K : PySem.W.Frag} {σ : L2.St} {H : Hp} {te : TE} {tr : TA} {tz : TS} {Dn : Ends} {Q : VK}
/-! what a part gives, said once for all that follows -/
theorem c_consX {P : V → Hp → Prop} {R : List V → Hp → Prop} (h : ∀ Q : VK, (∀ v H2, P v H2 → Q v H2) → te σ H Q) (k : ∀ v H2, P v H2 → tr σ H2 fun xs H3 => R (v :: xs) H3) : tCons te tr σ H R := h _ k
theorem q_asgMX {i : Nat} {P : V → Hp → Prop} (h : ∀ Q : VK, (∀ v H2, P v H2 → Q v H2) → te σ H Q) (k : ∀ v H2, P v H2 → tz Dn (σ.set i (some v)) H2) : tSeq (tAsg te (gName i)) tz Dn σ H := h _ k
theorem q_tupM {g : TG} (h : tr σ H fun vs H1 => vs.length ≤ sizeLine ∧ ∀ p, H1 p = none → g (.ref p) σ (upd H1 p (.tup vs)) (tz Dn)) : tSeq (tAsg (tTup tr) g) tz Dn σ H := h
theorem c_I0 {g : Int → Int → V} {i j : Int} {z : V} (e : g i j = z) (h : Q z H) : rI0 g (.int i) (.int j) H Q := ⟨i, j, rfl, rfl, e ▸ h⟩
theorem q_ifMX {tu tw : TS} {t : TT} (J : Hp → Prop) (h : ∀ Nx : L2.St → Hp → Prop, (∀ H2, J H2 → Nx σ H2) → t σ H fun b H1 => if b = true then tu { Dn with nx := Nx } σ H1 else tw { Dn with nx := Nx } σ H1) (k : ∀ H1, J H1 → tz Dn σ H1) : tSeq (tIfS t tu tw) tz Dn σ H := h _ k
theorem c_test {R : Bool → Hp → Prop} (h : te σ H fun v H1 => ∃ b, v = .bl b ∧ R b H1) : tTest te σ H R := h
theorem s_tupM {g : TG} (h : tr σ H fun vs H1 => vs.length ≤ sizeLine ∧ ∀ p, H1 p = none → g (.ref p) σ (upd H1 p (.tup vs)) Dn.nx) : tAsg (tTup tr) g Dn σ H := h
theorem c_tupOf (h : tCB (rTupOf K) (tCons te tNil) σ H Q) : te σ H (fun x H1 => tNil σ H1 fun xs H2 => rTupOf K (x :: xs) H2 Q) := h
end
section
variable {K : PySem.W.Frag} {σ : L2.St} {H : Hp} {te : TE} {tr : TA} {tu tz : TS} {Dn : Ends} {Q : VK} {t : TT}
/-- if c: .. ; what is so after it either way -/
theorem q_whenJ {b : Bool} (J : Hp → Prop) (h : EvT t σ H b) (h1 : b = true → ∀ H1, Ex H H1 → ∀ Nx : L2.St → Hp → Prop, (∀ H2, J H2 → Nx σ H2) → tu { Dn with nx := Nx } σ H1) (h2 : b = false → ∀ H1, Ex H H1 → J H1) (k : ∀ H1, J H1 → tz Dn σ H1) :
    tSeq (tIfS t tu tNext) tz Dn σ H := q_when h (fun hb H1 e => h1 hb H1 e _ k) fun hb H1 e => k H1 (h2 hb H1 e)
theorem q_whenX {b : Bool} (J : L2.St → Hp → Prop) (h : EvT t σ H b) (h1 : b = true → ∀ H1, Ex H H1 → ∀ Nx : L2.St → Hp → Prop, (∀ σ2 H2, J σ2 H2 → Nx σ2 H2) → tu { Dn with nx := Nx } σ H1) (h2 : b = false → ∀ H1, Ex H H1 → J σ H1) (k : ∀ σ1 H1, J σ1 H1 → tz Dn σ1 H1) :
    tSeq (tIfS t tu tNext) tz Dn σ H := q_when h (fun hb H1 e => h1 hb H1 e _ k) fun hb H1 e => k σ H1 (h2 hb H1 e)
theorem s_whenX {b : Bool} (J : L2.St → Hp → Prop) (h : EvT t σ H b) (h1 : b = true → ∀ H1, Ex H H1 → ∀ Nx : L2.St → Hp → Prop, (∀ σ2 H2, J σ2 H2 → Nx σ2 H2) → tu { Dn with nx := Nx } σ H1) (h2 : b = false → ∀ H1, Ex H H1 → J σ H1) (k : ∀ σ1 H1, J σ1 H1 → Dn.nx σ1 H1) :
    tIfS t tu tNext Dn σ H := s_when h (fun hb H1 e => h1 hb H1 e _ k) fun hb H1 e => k σ H1 (h2 hb H1 e)
theorem s_whenJ {b : Bool} (J : Hp → Prop) (h : EvT t σ H b) (h1 : b = true → ∀ H1, Ex H H1 → ∀ Nx : L2.St → Hp → Prop, (∀ H2, J H2 → Nx σ H2) → tu { Dn with nx := Nx } σ H1) (h2 : b = false → ∀ H1, Ex H H1 → J H1) (k : ∀ H1, J H1 → Dn.nx σ H1) :
    tIfS t tu tNext Dn σ H := s_when h (fun hb H1 e => h1 hb H1 e _ k) fun hb H1 e => k H1 (h2 hb H1 e)
end
section
variable {K : PySem.W.Frag} {σ : L2.St} {H : Hp} {ta tb te : TE} {v : V}
theorem ev_isN (h : Ev ta σ H v) : Ev (tOp (fun x y H Q => y = .non ∧ Q (.bl (decide (x = .non))) H) ta (tC .non)) σ H (.bl (decide (v = .non))) := fun H1 e Q q => h H1 e _ fun H2 e2 => ⟨rfl, q H2 e2⟩
theorem evl_el {ds : List PyData} {ys : List V} (h : El K te σ H ds) (hx : ∀ H1 xs, FzL K H1 ds xs → xs = ys) : EvL te σ H ys := fun H1 e Q q => h H1 e Q fun p xs H2 hp e2 h2 f => q p H2 hp e2 (by rw [h2, hx H2 xs f])
end
theorem room0 {k : Nat} {A : Around} (h : Room k A) : A.units < cLine := by have := h.un; omega
theorem room64 {k : Nat} {A : Around} (h : Room k A) : A.units + 64 < cLine := by have := h.un; omega
theorem room65 {k : Nat} {A : Around} (h : Room k A) : A.units + 65 < cLine := by have := h.un; omega
/-- data of naturals, and back -/
def gNat : PyData → Nat
  | .int i => i.toNat
  | _ => 0
theorem perm_ints {es rs : List PyData} {L : List Nat} (h : (es ++ rs).Perm (L.map fun n : Nat => PyData.int (n : Int))) : es = (es.map gNat).map (fun n : Nat => PyData.int (n : Int)) ∧ (es.map gNat ++ rs.map gNat).Perm L := by
  have hm : ∀ d ∈ es ++ rs, PyData.int ((gNat d : Nat) : Int) = d := fun d hd => by
    obtain ⟨n, _, rfl⟩ := List.mem_map.mp (h.subset hd)
    rfl
  refine ⟨?_, ?_⟩
  · rw [List.map_map]
    have : es.map ((fun n : Nat => PyData.int (n : Int)) ∘ gNat) = es.map id := List.map_congr_left fun d hd => hm d (List.mem_append_left _ hd)
    rw [this, List.map_id]
  · have h1 := h.map gNat
    rw [List.map_append, List.map_map] at h1
    have : L.map (gNat ∘ fun n : Nat => PyData.int (n : Int)) = L.map id := List.map_congr_left fun n _ => rfl
    rw [this, List.map_id] at h1
    exact h1
/-- a ring of places, each sent to the next -/
theorem cyc_perm {m : Nat} {ring F : List Nat} (nd : ring.Nodup) (hr : ∀ x ∈ ring, x < m) (hF : F.length = m) (h1 : ∀ i a, ring[i]? = some a → F[a]? = ring[(i + 1) % ring.length]?) (h2 : ∀ x, x < m → x ∉ ring → F[x]? = some x) : F.Perm (List.range m) := by
  have nx : ∀ i a, ring[i]? = some a → ∃ b, ring[(i + 1) % ring.length]? = some b ∧ F[a]? = some b := fun i a h => by
    have hi := (List.getElem?_eq_some_iff.mp h).1
    have hl : (i + 1) % ring.length < ring.length := Nat.mod_lt _ (by omega)
    exact ⟨_, List.getElem?_eq_getElem hl, by rw [h1 i a h, List.getElem?_eq_getElem hl]⟩
  refine perm_of ?_ ?_ hF
  · refine List.pairwise_iff_getElem.mpr fun i j hi0 hj hij e0 => ?_
    have e : F[i]? = F[j]? := by rw [List.getElem?_eq_getElem hi0, List.getElem?_eq_getElem hj, e0]
    by_cases hi : i ∈ ring
    · obtain ⟨a, ha⟩ := List.getElem?_of_mem hi
      obtain ⟨b, hb, hFb⟩ := nx a i ha
      by_cases hj2 : j ∈ ring
      · obtain ⟨c, hc⟩ := List.getElem?_of_mem hj2
        obtain ⟨d, hd, hFd⟩ := nx c j hc
        have hal := (List.getElem?_eq_some_iff.mp ha).1
        have hcl := (List.getElem?_eq_some_iff.mp hc).1
        rw [hFb, hFd] at e
        cases (Option.some.inj e)
        have e2 : (a + 1) % ring.length = (c + 1) % ring.length := by
          have p1 := (List.getElem?_eq_some_iff.mp hb).1
          exact (List.getElem?_inj p1 nd).mp (by rw [hb, hd])
        have e3 : a = c := by
          rcases Nat.lt_or_ge (a + 1) ring.length with q1 | q1
          · rcases Nat.lt_or_ge (c + 1) ring.length with q2 | q2
            · rw [Nat.mod_eq_of_lt q1, Nat.mod_eq_of_lt q2] at e2
              omega
            · have : c + 1 = ring.length := by omega
              rw [Nat.mod_eq_of_lt q1, this, Nat.mod_self] at e2
              omega
          · have : a + 1 = ring.length := by omega
            rw [this, Nat.mod_self] at e2
            rcases Nat.lt_or_ge (c + 1) ring.length with q2 | q2
            · rw [Nat.mod_eq_of_lt q2] at e2
              omega
            · omega
        subst e3
        rw [ha] at hc
        have := Option.some.inj hc
        omega
      · rw [hFb, h2 j (by omega) hj2] at e
        cases (Option.some.inj e)
        exact hj2 (List.mem_of_getElem? hb)
    · rw [h2 i (by omega) hi] at e
      by_cases hj2 : j ∈ ring
      · obtain ⟨c, hc⟩ := List.getElem?_of_mem hj2
        obtain ⟨d, hd, hFd⟩ := nx c j hc
        rw [hFd] at e
        cases (Option.some.inj e)
        exact hi (List.mem_of_getElem? hd)
      · rw [h2 j (by omega) hj2] at e
        have := Option.some.inj e
        omega
  · intro x hx
    obtain ⟨a, ha⟩ := List.getElem?_of_mem hx
    have hal := (List.getElem?_eq_some_iff.mp ha).1
    by_cases hm : a ∈ ring
    · obtain ⟨c, hc⟩ := List.getElem?_of_mem hm
      obtain ⟨d, hd, hFd⟩ := nx c a hc
      rw [ha] at hFd
      cases (Option.some.inj hFd)
      exact hr _ (List.mem_of_getElem? hd)
    · rw [h2 a (by omega) hm] at ha
      have := Option.some.inj ha
      omega
/-! two rows swapped -/
theorem RowsL.setRef {K : PySem.W.Frag} {H : Hp} {q : Addr} {r : List PyData} : ∀ {ps : List Addr} {rss : List (List PyData)} (i : Nat), RowsL K H ps rss → (∃ xs, H q = some (.lst xs) ∧ FzL K H r xs) → RowsL K H (ps.set i q) (rss.set i r)
  | [], _, _, h, _ => by
    rw [show _ = [] from h]
    exact rfl
  | z :: ps, _, 0, ⟨r', rt, h, _, h2⟩, k => by
    rw [h]
    exact ⟨r, rt, rfl, k, h2⟩
  | z :: ps, _, i + 1, ⟨r', rt, h, h1, h2⟩, k => by
    rw [h]
    exact ⟨r', rt.set i r, rfl, h1, RowsL.setRef i h2 k⟩
theorem swap_get {α : Type} {l : List α} {a b : Nat} {x y : α} (hx : l[a]? = some x) (hy : l[b]? = some y) (i : Nat) : ((l.set a y).set b x)[i]? = l[if i = b then a else if i = a then b else i]? := by
  have ha := (List.getElem?_eq_some_iff.mp hx).1
  have hb := (List.getElem?_eq_some_iff.mp hy).1
  rw [List.getElem?_set]
  by_cases h1 : b = i
  · subst h1
    rw [if_pos rfl, if_pos rfl, List.length_set, if_pos hb, hx]
  · rw [if_neg h1, List.getElem?_set, if_neg (show ¬ i = b from fun z => h1 z.symm)]
    by_cases h2 : a = i
    · subst h2
      rw [if_pos rfl, if_pos rfl, if_pos ha, hy]
    · rw [if_neg h2, if_neg (show ¬ i = a from fun z => h2 z.symm)]
theorem swap_nd {α : Type} {l : List α} {a b : Nat} {x y : α} (nd : l.Nodup) (hx : l[a]? = some x) (hy : l[b]? = some y) : ((l.set a y).set b x).Nodup := by
  refine List.pairwise_iff_getElem.mpr fun i j hi hj hij e0 => ?_
  have e : ((l.set a y).set b x)[i]? = ((l.set a y).set b x)[j]? := by rw [List.getElem?_eq_getElem hi, List.getElem?_eq_getElem hj, e0]
  rw [swap_get hx hy, swap_get hx hy] at e
  rw [List.length_set, List.length_set] at hi hj
  have ha := (List.getElem?_eq_some_iff.mp hx).1
  have hb := (List.getElem?_eq_some_iff.mp hy).1
  have hlt : (if i = b then a else if i = a then b else i) < l.length := by
    split
    · exact ha
    · split
      · exact hb
      · exact hi
  have h := (List.getElem?_inj hlt nd).mp e
  split at h <;> split at h <;> (try split at h) <;> (try split at h) <;> omega
theorem swap_mem {α : Type} {l : List α} {a b : Nat} {x y z : α} (hx : l[a]? = some x) (hy : l[b]? = some y) (h : z ∈ (l.set a y).set b x) : z ∈ l := by
  rcases List.mem_or_eq_of_mem_set h with h | h
  · rcases List.mem_or_eq_of_mem_set h with h | h
    · exact h
    · exact h ▸ List.mem_of_getElem? hy
  · exact h ▸ List.mem_of_getElem? hx
end WT
/-! Toolkit S: classes with slots: attribute targets, methods by name, what an attribute tells. -/
namespace WT
open PySem PySem.Spec PyProof.Rows L2 Evl
/-- self.f, among targets -/
def gSl (K : PySem.W.Frag) (ta : TE) (f : Str) : TG := fun v σ H Q => ta σ H fun x H1 => ∃ a C dx p vs i, x = .ref a ∧ SlX.Slt H1 a C dx vs ∧ SlX.SCls K C ∧ SlX.Slot1 K C f p i ∧ Q σ (SlX.slH H1 a C dx (SlX.putS i v vs))
section
variable {X : Cx}
theorem pg_attr {o : Expr} {f : Str} {pos : Pos} {ta : TE} (ho : PE X o ta)
    (ha : ∀ v, assign (.Attribute o f pos) X.env v = (do
      let ov ← holding [v] (eval o X.env)
      standAt pos.atName
      holding [v, ov] (setAttr ov f v)
      release [v, ov] []) := by intro _; rfl) : PG X (.Attribute o f pos) (gSl X.K ta f) := by
  refine ⟨fun pins s σ H v u Q I r h => ?_⟩
  rw [ha]
  refine wpAny_bind (wpAny_holding (thn (ho.run pins s σ H _ I h) fun ov s1 ⟨x, H1, I1, r1, a, C, dx, p, vs, i, ex, hs, c, t, q⟩ => ?_))
  subst ex
  obtain rfl : ov = Value.ref a := r1
  refine wpAny_bind (wpAny_standAt (wpAny_bind (wpAny_holding (SlX.setslot_ok I1 hs c t r fun s' I' => ?_))))
  exact wpAny_release ⟨σ, _, I', q⟩
end
/-! ### methods by name -/
structure MethIn (K : PySem.W.Frag) (C : Addr) (m q : Str) (ps : List Str) (st : Stmt) : Prop where
  ex : ∃ (f : Addr) (fd : FuncData), Fun K m q st f fd ∧ Binds K fd ps [] ∧ Meth K C m f
/-- a method's promise, self among the arguments -/
def Okm (P : Program) (w : World) (K : PySem.W.Frag) (mg : Str → Option Value) (base : Heap) (C : Addr) (m : Str) (k : Nat) (sp : Sp) : Prop := ∃ f, Meth K C m f ∧ FnR P w K mg base CX0 k f sp
section
variable {P : Program} {w : World} {K : PySem.W.Frag} {mg : Str → Option Value} {base : Heap} {C : Addr}
theorem Okm.mk {m q : Str} {ps N : List Str} {st : Stmt} {k : Nat} {sp : Sp} (d : MethIn K C m q ps st) (S : FnScope N ps (defScope st)) (len : ∀ vs H Q E, sp vs H Q E → vs.length = ps.length)
    (h : ∀ (f : Addr) (cdv : Value) (A : Around) (outer : List Env) (s : Shared) (H : Hp) (vs : List V) (Q : VK) (E : XK), Room k (A.deeper (envOfC q (defScope st) s.heap.objs.size f cdv)) → sp vs H Q E →
      ∃ t, PSs (cxOf CX0 P w K mg base N q (defScope st) f cdv A outer s H E).nox (defBody st) t ∧ t { nx := fun _ H' => Q .non H', rt := Q } (start N vs) H) : Okm P w K mg base C m (k + 1) sp := by
  obtain ⟨f, fd, F, b, M⟩ := d.ex
  have G : FnOk P w K mg base CX0 (k + 1) f fd ps sp := F.ok S len fun cdv A outer s H vs Q E => h f cdv A outer s H vs Q E
  exact ⟨f, M, (G.raw b .nil).imp fun vs H Q E hs => by rw [List.append_nil]; exact hs⟩
theorem Okm.weak {m : Str} {k : Nat} {sp sp' : Sp} (o : Okm P w K mg base C m k sp) (h : ∀ vs H Q E, sp' vs H Q E → sp vs H Q E) : Okm P w K mg base C m k sp' := by
  obtain ⟨f, M, F⟩ := o
  exact ⟨f, M, F.imp h⟩
end
section
variable {X : Cx} {k : Nat} {C : Addr} {m : Str} {sp : Sp} {o e : Expr} {es : List Expr} {pos apos : Pos} {ta : TE} {t : TA}
theorem pe_meth (he : PE X o ta) (c : SlX.SCls X.K C) (om : Okm X.prog X.w X.K X.mg X.base C m k sp) (hr : Room k X.A) (ha : PA X (e :: es) t)
    (hst : starEach (e :: es) X.env = (false, eval e X.env) :: starEach es X.env := by rfl) (hpl : (backTo pos (starEach es X.env)).any (·.1) = false := by rfl) {pl : Sem Bool}
    (ht : eval (.Call (.Attribute o m apos) (e :: es) [] pos) X.env = (do
      let ov ← eval o X.env
      standAt apos.atName
      let (f, first) ← holding [ov] (getMethod ov m pl)
      callWith pos f first (backTo pos (starEach (e :: es) X.env)) (backToKw pos (keywordEach [] X.env))) := by rfl) : PE X (.Call (.Attribute o m apos) (e :: es) [] pos) (SlX.tMethSl C sp E0 ta t) := by
  obtain ⟨f, M, F⟩ := om
  exact SlX.pe_methSl he c M F hr pass0 ha hst hpl ht
theorem pe_meth0 (he : PE X o ta) (c : SlX.SCls X.K C) (om : Okm X.prog X.w X.K X.mg X.base C m k sp) (hr : Room k X.A) {pl : Sem Bool}
    (ht : eval (.Call (.Attribute o m apos) [] [] pos) X.env = (do
      let ov ← eval o X.env
      standAt apos.atName
      let (f, first) ← holding [ov] (getMethod ov m pl)
      callWith pos f first (backTo pos (starEach [] X.env)) (backToKw pos (keywordEach [] X.env))) := by rfl) : PE X (.Call (.Attribute o m apos) [] [] pos) (SlX.tMethSl C sp E0 ta tNil) := by
  obtain ⟨f, M, F⟩ := om
  exact SlX.pe_methSl0 he c M F hr pass0 ht
end
/-! ### what an attribute tells -/
section
variable {K : PySem.W.Frag} {σ : L2.St} {H H' : Hp} {ta tb te tl : TE} {tr : TA} {tt : TT} {a C dx p : Addr} {vs : List (Option V)} {f : Str} {i : Nat} {v : V} {ds : List PyData}
theorem slt_ex (e : Ex H H') (h : SlX.Slt H a C dx vs) : SlX.Slt H' a C dx vs := by
  rcases h with ⟨h1, h2⟩ | ⟨h1, h2⟩
  · exact .inl ⟨e _ _ h1, h2⟩
  · exact .inr ⟨e _ _ h1, e _ _ h2⟩
theorem ev_attr (h : Ev ta σ H (.ref a)) (hs : SlX.Slt H a C dx vs) (c : SlX.SCls K C) (t : SlX.Slot1 K C f p i) (l : vs[i]? = some (some v)) : Ev (SlX.tSl K ta f) σ H v := fun H1 e Q q => h H1 e _ fun H2 e2 => ⟨a, C, dx, p, vs, i, v, rfl, slt_ex (e.trans e2) hs, c, t, l, q H2 e2⟩
theorem c_meth {sp : Sp} {E : XK} {Q : VK} (h : Ev ta σ H (.ref a)) (hs : SlX.Slt H a C dx vs) (k : ∀ H1, Ex H H1 → tr σ H1 fun ws H2 => sp (.ref a :: ws) H2 Q E) : SlX.tMethSl C sp E ta tr σ H Q := h H (Ex.refl H) _ fun H1 e => ⟨a, dx, vs, rfl, slt_ex e hs, k H1 e⟩
theorem ed_meth {sp : Sp} {E : XK} {as : List Ag} {d : PyData} (h : Ev ta σ H (.ref a)) (hs : SlX.Slt H a C dx vs) (hr : Ea K tr σ H as) (hp : ∀ H1, Ex H H1 → ∀ ws, AgL K H1 as ws → ∀ Q : VK, (∀ v H2, Ex H1 H2 → Fz K H2 d v → Q v H2) → sp (.ref a :: ws) H1 Q E) : Ed K (SlX.tMethSl C sp E ta tr) σ H d := fun H1 e Q q =>
  h H1 e _ fun H2 e2 => ⟨a, dx, vs, rfl, slt_ex (e.trans e2) hs, hr H2 (e.trans e2) _ fun ws H3 e3 hw => hp H3 ((e.trans e2).trans e3) ws hw Q fun v H4 e4 f => q v H4 ((e2.trans e3).trans e4) f⟩
/-! ### comprehensions over pairs -/
/-- [e for i, x in enumerate(xs) if c], xs a list that stands -/
theorem el_lcEn {j1 j2 : Nat} {ws : List Nat} {b : Addr} {xs : List V} (out : Nat → List PyData) (h : Ev tl σ H (.ref b)) (hx : SqL K H b xs) (hf : FzL K H ds xs) (h0 : out 0 = []) (hz : ∀ i, i < ds.length → (out i).length < 100000)
    (hw : ∀ x y, wipe (((wipe σ ws).set j1 (some x)).set j2 (some y)) ws = wipe σ ws)
    (hs : ∀ (i : Nat) (x : V) d H1, Ex H H1 → ds[i]? = some d → Fz K H1 d x → Turn1 K tt te (((wipe σ ws).set j1 (some (.int (i : Int)))).set j2 (some x)) H1 out i) :
    El K (tLc (iEnum K (tCons tl tNil)) (g2 K j1 j2) tt te ws) σ H (out ds.length) := fun H0 e Q q => h H0 e _ fun H1 e1 => by
  refine ⟨b, xs, rfl, ex_l (e.trans e1) hx, fun Dl hD => lc_it (walk_enum (xs := xs)) (CwD K H1 out Dl) ⟨hD, Ex.new hD, [], upd_same, by rw [h0]; exact fzl_nil⟩ (fun i H' _ p => ex_l ((e.trans e1).trans p.2.1) hx) (fun i v H' H'' hi p hy => ?_) (fun H' p => ?_)⟩
  · obtain ⟨T, x, y, rfl, hT0, rfl, ex, ey⟩ := hy
    cases (Option.some.inj ex)
    obtain ⟨d, hd, fd⟩ := fzl_getV hf ey
    have eT : Ex H' (upd H' T (.tup [.int (i : Nat), y])) := Ex.new hT0
    refine g2_pair upd_same ⟨hw _ _, ?_⟩
    have p' : CwD K H1 out Dl i (upd H' T (.tup [.int (i : Nat), y])) := by
      obtain ⟨p1, p2, acc, p3, p4⟩ := p
      exact ⟨p1, p2.trans eT, acc, eT _ _ p3, fzl_ex eT p4⟩
    exact cwd_turn p' (hz i (by have := (List.getElem?_eq_some_iff.mp hd).1; omega)) (fun H3 e3 _ => hs i y d H3 ((e.trans e1).trans e3) hd (fz_ex ((e.trans e1).trans e3) fd)) _ (Ex.refl _)
  · obtain ⟨p1, p2, acc, p3, p4⟩ := p
    rw [fzl_len hf] at p4
    exact q Dl acc H' (fresh_back e1 p1) (e1.trans p2) p3 p4
/-- the two of a pair, to two names -/
theorem g2_fz {j1 j2 : Nat} {d1 d2 : PyData} {Q : L2.St → Hp → Prop} (f : Fz K H (.tuple [d1, d2]) v) (k : ∀ x y, Fz K H d1 x → Fz K H d2 y → Q ((σ.set j1 (some x)).set j2 (some y)) H) : g2 K j1 j2 v σ H Q := by
  obtain ⟨b, xs, rfl, hs, hf⟩ := fz_tupS f
  obtain ⟨x, r, rfl, hx, hr⟩ := fzl_consI hf
  obtain ⟨y, r2, rfl, hy, hr2⟩ := fzl_consI hr
  have := fzl_nilI hr2
  subst this
  exact g2_pair hs (k x y hx hy)
/-- [e for x, y in pairs if c], a list of pairs made first -/
theorem el_lcPr {j1 j2 : Nat} {ws : List Nat} {b : Addr} {xs : List V} (out : Nat → List PyData) (h : Ev tl σ H (.ref b)) (hx : SqL K H b xs) (hf : FzL K H ds xs) (h0 : out 0 = []) (hz : ∀ i, i < ds.length → (out i).length < 100000)
    (hw : ∀ x y, wipe (((wipe σ ws).set j1 (some x)).set j2 (some y)) ws = wipe σ ws) (hd2 : ∀ d ∈ ds, ∃ d1 d2, d = .tuple [d1, d2])
    (hs : ∀ (i : Nat) (x y : V) d1 d2 H1, Ex H H1 → ds[i]? = some (.tuple [d1, d2]) → Fz K H1 d1 x → Fz K H1 d2 y → Turn1 K tt te (((wipe σ ws).set j1 (some x)).set j2 (some y)) H1 out i) :
    El K (tLc (iList K tl) (g2 K j1 j2) tt te ws) σ H (out ds.length) := fun H0 e Q q => h H0 e _ fun H1 e1 => by
  refine ⟨b, rfl, ⟨xs, ex_l (e.trans e1) hx⟩, fun Dl hD => lc_list (xs := xs) (CwD K H1 out Dl) ⟨hD, Ex.new hD, [], upd_same, by rw [h0]; exact fzl_nil⟩ (fun i H' _ p => ex_l ((e.trans e1).trans p.2.1) hx) (fun i x H' hi p => ?_) (fun H' p => ?_)⟩
  · obtain ⟨d, hd, fd⟩ := fzl_getV hf hi
    obtain ⟨d1, d2, rfl⟩ := hd2 d (List.mem_of_getElem? hd)
    refine g2_fz (fz_ex ((e.trans e1).trans p.2.1) fd) fun y z hy hz2 => ⟨hw _ _, ?_⟩
    exact cwd_turn p (hz i (by have := (List.getElem?_eq_some_iff.mp hd).1; omega)) (fun H3 e3 e4 => hs i y z d1 d2 H3 ((e.trans e1).trans e3) hd (fz_ex e4 hy) (fz_ex e4 hz2)) H' (Ex.refl _)
  · obtain ⟨p1, p2, acc, p3, p4⟩ := p
    rw [fzl_len hf] at p4
    exact q Dl acc H' (fresh_back e1 p1) (e1.trans p2) p3 p4
end
theorem room1 {k : Nat} {A : Around} (h : Room k A) : A.units + 1 < cLine := by have := h.un; omega
section
variable {X : Cx} {K : PySem.W.Frag}
theorem pe_slK {e : Expr} {f : Str} {pos : Pos} {ta : TE} (he : PE X e ta) (hK : X.K = K := by rfl) (hb : attributeBase e f X.env (eval e X.env) = eval e X.env := by rfl) : PE X (.Attribute e f pos) (SlX.tSl K ta f) := hK ▸ SlX.pe_sl he hb
theorem pg_tupK {es : List Expr} {t : TGs} {k n : Nat} {pos : Pos} (hc : X.calm = true) (h : PGs X es t) (hK : X.K = K := by rfl) (hn : (assignEach es X.env).length = n := by rfl) (hst : (assignEach es X.env).findIdx? (·.1) = none := by rfl) : PG X (.Tuple es k pos) (gTup K n t) := hK ▸ pg_tup hc h hn hst
end
/-- a class that is made -/
def Okc (P : Program) (w : World) (K : PySem.W.Frag) (mg : Str → Option Value) (base : Heap) (x : Str) (k : Nat) (C : Addr) (sp : Sp) : Prop := ∃ f, Mk K C f ∧ FnR P w K mg base CX0 k f sp ∧ mg x = some (.ref C)
theorem pe_mkC {X : Cx} {k : Nat} {C : Addr} {sp : Sp} {x : Str} {e : Expr} {es : List Expr} {p pos : Pos} {t : TA} (o : Okc X.prog X.w X.K X.mg X.base x k C sp) (hr : Room (k + 1) X.A) (ha : PA X (e :: es) t) (hg : Gl X x := by rfl) (hdb : (x == ("__debug__" : Str)) = false := by decide)
    (he : starEach (e :: es) X.env = (false, eval e X.env) :: starEach es X.env := by rfl) (hpl : (backTo pos (starEach es X.env)).any (·.1) = false := by rfl) : PE X (.Call (.Name x p) (e :: es) [] pos) (StX.tMakeR C sp E0 t) := by
  obtain ⟨f, M, F, hm⟩ := o
  exact StX.pe_makeR M F hr hg hm pass0 ha hdb he hpl
section
variable {K : PySem.W.Frag} {σ : L2.St} {H : Hp} {ta tb td te tl : TE} {tr : TA} {g : TG} {tu tz : TS} {Dn : Ends} {v : V}
/-- a loop over a list that is made first -/
theorem s_forM (h : tl σ H fun x H1 => ∃ a, x = .ref a ∧ tFor (iList K (tC (.ref a))) g tu Dn σ H1) : tFor (iList K tl) g tu Dn σ H := by
  unfold tFor iList at h ⊢
  have e : (fun (x : V) (H1 : Hp) => ∃ a, x = V.ref a ∧ tC (.ref a) σ H1 fun x H1 => ∃ a, x = .ref a ∧ (∃ xs, SqL K H1 a xs) ∧ ∃ W : Nat → Nat → L2.St → Hp → Prop, (∃ m, W 0 m σ H1) ∧ ∀ i m σ H, W i m σ H →
      ((Itl K a).stop i H ∧ Dn.nx σ H) ∨ ((Itl K a).go i H ∧ ∃ N : L2.St → Hp → Prop, (∀ σ' H', N σ' H' → ∃ m', m' < m ∧ W (i + 1) m' σ' H') ∧ ∀ x H', (Itl K a).yld i H x H' → g x σ H' fun σ2 H2 => tu { Dn with nx := N, ct := N, bk := Dn.nx } σ2 H2)) =
    fun (x : V) (H1 : Hp) => ∃ a, x = .ref a ∧ (∃ xs, SqL K H1 a xs) ∧ ∃ W : Nat → Nat → L2.St → Hp → Prop, (∃ m, W 0 m σ H1) ∧ ∀ i m σ H, W i m σ H →
      ((Itl K a).stop i H ∧ Dn.nx σ H) ∨ ((Itl K a).go i H ∧ ∃ N : L2.St → Hp → Prop, (∀ σ' H', N σ' H' → ∃ m', m' < m ∧ W (i + 1) m' σ' H') ∧ ∀ x H', (Itl K a).yld i H x H' → g x σ H' fun σ2 H2 => tu { Dn with nx := N, ct := N, bk := Dn.nx } σ2 H2) := by
    funext x H1
    refine propext ⟨?_, ?_⟩
    · rintro ⟨a, rfl, b, hb, k⟩
      cases hb
      exact ⟨a, rfl, k⟩
    · rintro ⟨a, rfl, k⟩
      exact ⟨a, rfl, a, rfl, k⟩
  rw [e] at h
  exact h
theorem q_forM (h : tl σ H fun x H1 => ∃ a, x = .ref a ∧ tSeq (tFor (iList K (tC (.ref a))) g tu) tz Dn σ H1) : tSeq (tFor (iList K tl) g tu) tz Dn σ H := s_forM (Dn := { Dn with nx := tz Dn }) h
theorem ev_notN (h : Ev ta σ H v) : Ev (tOp (fun x y H Q => y = .non ∧ Q (.bl (!decide (x = .non))) H) ta (tC .non)) σ H (.bl (!decide (v = .non))) := fun H1 e Q q => h H1 e _ fun H2 e2 => ⟨rfl, q H2 e2⟩
theorem c_bm0 {T : String} {r : V → List V → Hp → VK → Prop} {Q : VK} (h : te σ H fun x H1 => tyV K T x H1 ∧ r x [] H1 Q) : tBM0 K T r te σ H Q := h
end
theorem q_par3M {i j l : Nat} {tr : TA} {tz : TS} {Dn : Ends} {σ : L2.St} {H : Hp} (h : tr σ H fun vs H1 => ∃ u v w, vs = [u, v, w] ∧ tz Dn (((σ.set i (some u)).set j (some v)).set l (some w)) H1) : tSeq (tPar3 i j l tr) tz Dn σ H := h
end WT
/-! Squares of marks, and what is moved. -/
namespace WT
open PySem PySem.Spec PyProof.Rows L2 Evl
def at2 (M : List (List Nat)) (i j : Nat) : Nat := (M.getD i []).getD j 0
structure Sq (k : Nat) (M : List (List Nat)) : Prop where
  len : M.length = k
  row : ∀ r ∈ M, r.length = k
def rNs (r : List Nat) : List PyData := r.map fun n : Nat => PyData.int (n : Int)
def rN (F : List (List Nat)) : List (List PyData) := F.map rNs
/-- the square in which the mark of (place i, place j) stands at (p i, p j) -/
def movedN (k : Nat) (M : List (List Nat)) (p : List Nat) : List (List Nat) := (List.range k).map fun a => (List.range k).map fun b => at2 M (p.idxOf a) (p.idxOf b)
theorem Sq.get {k : Nat} {M : List (List Nat)} (h : Sq k M) {i : Nat} (hi : i < k) : ∃ r, M[i]? = some r ∧ r.length = k ∧ M.getD i [] = r := by
  have hl := h.len
  have e : M[i]? = some (M[i]'(by omega)) := List.getElem?_eq_getElem _
  exact ⟨_, e, h.row _ (List.mem_of_getElem? e), by rw [List.getD_eq_getElem?_getD, e]; rfl⟩
theorem Sq.at {k : Nat} {M : List (List Nat)} (h : Sq k M) {i j : Nat} {r : List Nat} (hr : M[i]? = some r) (hj : j < k) : r[j]? = some (at2 M i j) := by
  have hrl := h.row r (List.mem_of_getElem? hr)
  unfold at2
  rw [List.getD_eq_getElem?_getD, List.getD_eq_getElem?_getD, hr, Option.getD_some, List.getElem?_eq_getElem (by omega : j < r.length)]
  rfl
theorem sq_ext {k : Nat} {M N : List (List Nat)} (h : Sq k M) (g : Sq k N) (e : ∀ i j, i < k → j < k → at2 M i j = at2 N i j) : M = N := by
  refine List.ext_getElem? fun i => ?_
  by_cases hi : i < k
  · obtain ⟨r, hr, hrl, _⟩ := h.get hi
    obtain ⟨s, hs, hsl, _⟩ := g.get hi
    rw [hr, hs]
    congr 1
    refine List.ext_getElem? fun j => ?_
    by_cases hj : j < k
    · rw [h.at hr hj, g.at hs hj, e i j hi hj]
    · rw [List.getElem?_eq_none (by omega), List.getElem?_eq_none (by omega)]
  · have h1 := h.len
    have g1 := g.len
    rw [List.getElem?_eq_none (by omega), List.getElem?_eq_none (by omega)]
theorem at2_tab {k : Nat} {f : Nat → Nat → Nat} {a b : Nat} (ha : a < k) (hb : b < k) : at2 ((List.range k).map fun a => (List.range k).map fun b => f a b) a b = f a b := by
  unfold at2
  simp [List.getD_eq_getElem?_getD, ha, hb]
theorem sq_tab {k : Nat} {f : Nat → Nat → Nat} : Sq k ((List.range k).map fun a => (List.range k).map fun b => f a b) := by
  refine ⟨by simp, fun r hr => ?_⟩
  obtain ⟨a, _, rfl⟩ := List.mem_map.mp hr
  simp
theorem moved_sq {k : Nat} {M : List (List Nat)} {p : List Nat} : Sq k (movedN k M p) := sq_tab
theorem perm_lt {k : Nat} {p : List Nat} (h : p.Perm (List.range k)) {i : Nat} {x : Nat} (e : p[i]? = some x) : x < k := List.mem_range.mp (h.subset (List.mem_of_getElem? e))
theorem perm_nd {k : Nat} {p : List Nat} (h : p.Perm (List.range k)) : p.Nodup := h.nodup_iff.mpr List.nodup_range
theorem perm_len {k : Nat} {p : List Nat} (h : p.Perm (List.range k)) : p.length = k := by rw [h.length_eq, List.length_range]
theorem idx_of_get {p : List Nat} (nd : p.Nodup) {i x : Nat} (e : p[i]? = some x) : p.idxOf x = i := by
  obtain ⟨hi, hx⟩ := List.getElem?_eq_some_iff.mp e
  rw [← hx]
  exact nd.idxOf_getElem i hi
theorem get_idx {p : List Nat} {x : Nat} (h : x ∈ p) : p[p.idxOf x]? = some x := by
  have hl := List.idxOf_lt_length_iff.mpr h
  rw [List.getElem?_eq_getElem hl, List.getElem_idxOf hl]
theorem moved_at {k : Nat} {M : List (List Nat)} {p : List Nat} (hp : p.Perm (List.range k)) {i j a b : Nat} (ha : p[i]? = some a) (hb : p[j]? = some b) : at2 (movedN k M p) a b = at2 M i j := by
  unfold movedN
  rw [at2_tab (perm_lt hp ha) (perm_lt hp hb), idx_of_get (perm_nd hp) ha, idx_of_get (perm_nd hp) hb]
/-- a square is what is moved when it has the marks -/
theorem moved_of {k : Nat} {M N : List (List Nat)} {p : List Nat} (hp : p.Perm (List.range k)) (hN : Sq k N) (h : ∀ i j a b, p[i]? = some a → p[j]? = some b → at2 N a b = at2 M i j) : movedN k M p = N := by
  refine sq_ext moved_sq hN fun a b ha hb => ?_
  have h1 := get_idx (hp.mem_iff.mpr (List.mem_range.mpr ha))
  have h2 := get_idx (hp.mem_iff.mpr (List.mem_range.mpr hb))
  rw [moved_at hp h1 h2, h _ _ _ _ h1 h2]
theorem at2_set {k : Nat} {F : List (List Nat)} (h : Sq k F) {a b x : Nat} {r : List Nat} (hr : F[a]? = some r) (hb : b < k) (c d : Nat) : at2 (F.set a (r.set b x)) c d = if c = a ∧ d = b then x else at2 F c d := by
  have ha := (List.getElem?_eq_some_iff.mp hr).1
  have hrl := h.row r (List.mem_of_getElem? hr)
  unfold at2
  rw [List.getD_eq_getElem?_getD, List.getD_eq_getElem?_getD, List.getD_eq_getElem?_getD, List.getD_eq_getElem?_getD, List.getElem?_set]
  by_cases hc : c = a
  · subst hc
    rw [if_pos rfl, if_pos ha, Option.getD_some, List.getElem?_set, hr, Option.getD_some]
    by_cases hd : d = b
    · subst hd
      rw [if_pos rfl, if_pos (by omega), if_pos ⟨rfl, rfl⟩, Option.getD_some]
    · rw [if_neg (fun z => hd z.symm), if_neg (fun z => hd z.2)]
  · rw [if_neg (fun z => hc z.symm), if_neg (fun z => hc z.1)]
theorem sq_set {k : Nat} {F : List (List Nat)} (h : Sq k F) {a b x : Nat} {r : List Nat} (hr : F[a]? = some r) : Sq k (F.set a (r.set b x)) := by
  refine ⟨by rw [List.length_set, h.len], fun s hs => ?_⟩
  rcases List.mem_or_eq_of_mem_set hs with z | z
  · exact h.row s z
  · rw [z, List.length_set]
    exact h.row r (List.mem_of_getElem? hr)
theorem rN_set {F : List (List Nat)} {a b x : Nat} {r : List Nat} : (rN F).set a ((rNs r).set b (.int (x : Int))) = rN (F.set a (r.set b x)) := by
  unfold rN rNs
  rw [List.map_set, List.map_set]
theorem rN_get {F : List (List Nat)} {a : Nat} {r : List Nat} (h : F[a]? = some r) : (rN F)[a]? = some (rNs r) := by
  unfold rN
  rw [List.getElem?_map, h]
  rfl
theorem sq_zero {k : Nat} : Sq k (List.replicate k (List.replicate k 0)) := ⟨by simp, fun r hr => by rw [List.eq_of_mem_replicate hr]; simp⟩
theorem tNN_rN {F : List (List Nat)} : tNN F = .tuple ((rN F).map PyData.tuple) := by
  unfold tNN rN
  rw [List.map_map]
  rfl
end WT
/-! The least orders of a picture: the plain law. -/
namespace WT
open PySem PySem.Spec PyProof.Rows L2 Evl
theorem snoc_ind {α : Type} {P : List α → Prop} (h0 : P []) (h1 : ∀ l a, P l → P (l ++ [a])) (l : List α) : P l := by
  have h : ∀ r : List α, P r.reverse := fun r => by
    induction r with
    | nil => exact h0
    | cons a r ih =>
      rw [List.reverse_cons]
      exact h1 _ _ ih
  have := h l.reverse
  rw [List.reverse_reverse] at this
  exact this
/-- the order of rows of naturals -/
def ltN (a b : List Nat) : Bool := HT.lexLt (a.map fun n : Nat => (n : Int)) (b.map fun n : Nat => (n : Int))
theorem ltN_nil_cons (b : Nat) (r : List Nat) : ltN [] (b :: r) = true := rfl
theorem ltN_nil (a : List Nat) : ltN a [] = false := by cases a <;> rfl
theorem ltN_cons (a b : Nat) (r s : List Nat) : ltN (a :: r) (b :: s) = (decide (a < b) || (decide (a = b) && ltN r s)) := by
  show HT.lexLt ((a : Int) :: _) ((b : Int) :: _) = _
  rw [HT.lexLt_cons]
  by_cases e : a = b
  · subst e
    rw [if_pos rfl]
    simp [ltN]
  · rw [if_neg (show ¬ (a : Int) = (b : Int) by omega)]
    have e1 : decide ((a : Int) < (b : Int)) = decide (a < b) := decide_eq_decide.mpr (by omega)
    rw [e1]
    simp [e]
theorem ltN_irr : ∀ a : List Nat, ltN a a = false
  | [] => rfl
  | a :: r => by rw [ltN_cons, ltN_irr r]; simp
theorem ltN_trans : ∀ {a b c : List Nat}, ltN a b = true → ltN b c = true → ltN a c = true
  | a, b, [], _, h => by rw [ltN_nil] at h; cases h
  | [], _, c :: t, _, _ => rfl
  | a :: r, [], c :: t, h, _ => by rw [ltN_nil] at h; cases h
  | a :: r, b :: s, c :: t, h, k => by
    rw [ltN_cons] at h k ⊢
    simp only [Bool.or_eq_true, Bool.and_eq_true, decide_eq_true_eq] at h k ⊢
    rcases h with h | ⟨h1, h2⟩
    · rcases k with k | ⟨k1, k2⟩
      · exact .inl (by omega)
      · exact .inl (by omega)
    · rcases k with k | ⟨k1, k2⟩
      · exact .inl (by omega)
      · exact .inr ⟨by omega, ltN_trans h2 k2⟩
theorem ltN_tri : ∀ {a b : List Nat}, ltN a b = false → a = b ∨ ltN b a = true
  | [], [], _ => .inl rfl
  | [], b :: s, h => by cases h
  | a :: r, [], _ => .inr rfl
  | a :: r, b :: s, h => by
    rw [ltN_cons] at h ⊢
    simp only [Bool.or_eq_false_iff, Bool.and_eq_false_iff, decide_eq_false_iff_not, Bool.or_eq_true, Bool.and_eq_true, decide_eq_true_eq] at h ⊢
    obtain ⟨h1, h2⟩ := h
    by_cases e : a = b
    · subst e
      rcases h2 with h2 | h2
      · exact absurd rfl h2
      · rcases ltN_tri h2 with h3 | h3
        · exact .inl (by rw [h3])
        · exact .inr (.inr ⟨rfl, h3⟩)
    · exact .inr (.inl (by omega))
/-- what a place p tells, after the places o -/
def tells (M : List (List Nat)) (o : List Nat) (p : Nat) : List Nat := (o.flatMap fun c => [at2 M p c, at2 M c p]) ++ [at2 M p p]
/-- the places not chosen -/
def rest (k : Nat) (o : List Nat) : List Nat := (List.range k).filter fun p => !decide (p ∈ o)
def cand1 (k : Nat) (M : List (List Nat)) (o : List Nat) : List (List Nat × List Nat) := (rest k o).map fun p => (tells M o p, o ++ [p])
def cand (k : Nat) (M : List (List Nat)) (os : List (List Nat)) : List (List Nat × List Nat) := os.flatMap (cand1 k M)
def step1 (s : Option (List Nat) × List (List Nat)) (c : List Nat × List Nat) : Option (List Nat) × List (List Nat) :=
  let s1 := if (match s.1 with | none => true | some b => ltN c.1 b) = true then (some c.1, []) else s
  if some c.1 = s1.1 then (s1.1, s1.2 ++ [c.2]) else s1
def scan (cs : List (List Nat × List Nat)) : Option (List Nat) × List (List Nat) := cs.foldl step1 (none, [])
def lapF (k : Nat) (M : List (List Nat)) (s : List Nat × List (List Nat)) : List Nat × List (List Nat) := (s.1 ++ (scan (cand k M s.2)).1.getD [], (scan (cand k M s.2)).2)
def laps (k : Nat) (M : List (List Nat)) : Nat → List Nat × List (List Nat)
  | 0 => ([], [[]])
  | t + 1 => lapF k M (laps k M t)
theorem scan_snoc (cs : List (List Nat × List Nat)) (c : List Nat × List Nat) : scan (cs ++ [c]) = step1 (scan cs) c := by
  unfold scan
  rw [List.foldl_append]
  rfl
/-- m is the least of what is told -/
def Least (cs : List (List Nat × List Nat)) (m : List Nat) : Prop := (∃ c ∈ cs, c.1 = m) ∧ ∀ c ∈ cs, c.1 = m ∨ ltN m c.1 = true
theorem least_one {cs ds : List (List Nat × List Nat)} {m n : List Nat} (h : Least cs m) (k : Least ds n) (e : ∀ t, (∃ c ∈ cs, c.1 = t) ↔ ∃ c ∈ ds, c.1 = t) : m = n := by
  obtain ⟨c, hc, hcm⟩ := (e m).mp h.1
  obtain ⟨d, hd, hdn⟩ := (e n).mpr k.1
  rcases k.2 c hc with z | z
  · rw [← hcm, z]
  · rcases h.2 d hd with y | y
    · rw [← hdn, y]
    · rw [hcm] at z
      rw [hdn] at y
      have := ltN_trans z y
      rw [ltN_irr] at this
      cases this
/-- the scan finds the least, and all that tell it -/
theorem scan_least : ∀ (cs : List (List Nat × List Nat)), (cs = [] → scan cs = (none, [])) ∧ (cs ≠ [] → ∃ m, (scan cs).1 = some m ∧ Least cs m ∧ (scan cs).2 = (cs.filter fun c => decide (c.1 = m)).map Prod.snd) := by
  intro cs
  refine snoc_ind (P := fun cs => (cs = [] → scan cs = (none, [])) ∧ (cs ≠ [] → ∃ m, (scan cs).1 = some m ∧ Least cs m ∧ (scan cs).2 = (cs.filter fun c => decide (c.1 = m)).map Prod.snd)) ?_ ?_ cs
  · exact ⟨fun _ => rfl, fun h => absurd rfl h⟩
  · intro cs c ih
    refine ⟨fun h => by simp at h, fun _ => ?_⟩
    rw [scan_snoc]
    by_cases hcs : cs = []
    · subst hcs
      refine ⟨c.1, ?_, ⟨⟨c, by simp, rfl⟩, fun d hd => .inl ?_⟩, ?_⟩
      · simp [scan, step1]
      · simp at hd
        rw [hd]
      · simp [scan, step1]
    · obtain ⟨m, h1, h2, h3⟩ := ih.2 hcs
      by_cases hlt : ltN c.1 m = true
      · have e1 : step1 (scan cs) c = (some c.1, [c.2]) := by
          unfold step1
          rw [h1]
          simp [hlt]
        rw [e1]
        have hless : ∀ d ∈ cs, ltN c.1 d.1 = true := fun d hd => by
          rcases h2.2 d hd with z | z
          · rw [z]
            exact hlt
          · exact ltN_trans hlt z
        refine ⟨c.1, rfl, ⟨⟨c, by simp, rfl⟩, fun d hd => ?_⟩, ?_⟩
        · rcases List.mem_append.mp hd with z | z
          · exact .inr (hless d z)
          · rw [List.mem_singleton.mp z]
            exact .inl rfl
        · have : (cs.filter fun d => decide (d.1 = c.1)) = [] := List.filter_eq_nil_iff.mpr fun d hd z => by
            have := hless d hd
            rw [of_decide_eq_true z, ltN_irr] at this
            cases this
          rw [List.filter_append, this]
          simp
      · have hlt' : ltN c.1 m = false := by simpa using hlt
        by_cases hem : c.1 = m
        · have e1 : step1 (scan cs) c = (some m, (scan cs).2 ++ [c.2]) := by
            unfold step1
            rw [h1]
            simp [hem, ltN_irr, h1]
          rw [e1, h3]
          refine ⟨m, rfl, ⟨⟨c, by simp, hem⟩, fun d hd => ?_⟩, ?_⟩
          · rcases List.mem_append.mp hd with z | z
            · exact h2.2 d z
            · rw [List.mem_singleton.mp z]
              exact .inl hem
          · rw [List.filter_append, List.map_append]
            simp [hem]
        · have e1 : step1 (scan cs) c = (some m, (scan cs).2) := by
            unfold step1
            rw [h1]
            simp only [hlt', h1, Bool.false_eq_true, if_false]
            rw [if_neg (fun z => hem (Option.some.inj z)), ← h1]
          rw [e1, h3]
          refine ⟨m, rfl, ⟨?_, fun d hd => ?_⟩, ?_⟩
          · obtain ⟨d, hd, hdm⟩ := h2.1
            exact ⟨d, List.mem_append_left _ hd, hdm⟩
          · rcases List.mem_append.mp hd with z | z
            · exact h2.2 d z
            · rw [List.mem_singleton.mp z]
              rcases ltN_tri hlt' with y | y
              · exact absurd y hem
              · exact .inr y
          · rw [List.filter_append, List.map_append]
            simp [hem]
theorem mem_rest {k p : Nat} {o : List Nat} : p ∈ rest k o ↔ p < k ∧ p ∉ o := by
  unfold rest
  rw [List.mem_filter, List.mem_range]
  simp
theorem mem_cand {k : Nat} {M : List (List Nat)} {os : List (List Nat)} {c : List Nat × List Nat} : c ∈ cand k M os ↔ ∃ o ∈ os, ∃ p, p < k ∧ p ∉ o ∧ c = (tells M o p, o ++ [p]) := by
  unfold cand cand1
  rw [List.mem_flatMap]
  constructor
  · rintro ⟨o, ho, h⟩
    obtain ⟨p, hp, rfl⟩ := List.mem_map.mp h
    obtain ⟨h1, h2⟩ := mem_rest.mp hp
    exact ⟨o, ho, p, h1, h2, rfl⟩
  · rintro ⟨o, ho, p, h1, h2, rfl⟩
    exact ⟨o, ho, List.mem_map.mpr ⟨p, mem_rest.mpr ⟨h1, h2⟩, rfl⟩⟩
/-- the marks of an order, told place by place -/
inductive Coded (M : List (List Nat)) : List Nat → List Nat → Prop
  | nil : Coded M [] []
  | snoc {o c : List Nat} (p : Nat) (h : Coded M o c) : Coded M (o ++ [p]) (c ++ tells M o p)
/-- an order of t places -/
structure Ord (k t : Nat) (o : List Nat) : Prop where
  len : o.length = t
  nd : o.Nodup
  lt : ∀ x ∈ o, x < k
theorem ord_more {k t : Nat} {o : List Nat} (h : Ord k t o) (ht : t < k) : ∃ p, p < k ∧ p ∉ o := by
  have h1 : ¬ (∀ p, p < k → p ∈ o) := fun hall => by
    have hs : (List.range k).length ≤ o.length := by
      have nd : (List.range k).Nodup := List.nodup_range
      have hp : (List.range k).Perm o := (List.perm_ext_iff_of_nodup nd h.nd).mpr fun x => ⟨fun hx => hall x (List.mem_range.mp hx), fun hx => List.mem_range.mpr (h.lt x hx)⟩
      rw [hp.length_eq]
      exact Nat.le_refl _
    rw [List.length_range, h.len] at hs
    omega
  exact Classical.byContradiction fun z => h1 fun p hp => Classical.byContradiction fun y => z ⟨p, hp, y⟩
theorem laps_ok (k : Nat) (M : List (List Nat)) : ∀ t, t ≤ k → (laps k M t).2 ≠ [] ∧ ∀ o ∈ (laps k M t).2, Ord k t o ∧ Coded M o (laps k M t).1
  | 0, _ => ⟨by simp [laps], fun o ho => by
    have : o = [] := by simpa [laps] using ho
    subst this
    exact ⟨⟨rfl, List.nodup_nil, fun x hx => by cases hx⟩, .nil⟩⟩
  | t + 1, ht => by
    obtain ⟨ih1, ih2⟩ := laps_ok k M t (by omega)
    have hne : cand k M (laps k M t).2 ≠ [] := fun z => by
      obtain ⟨o, ho⟩ := List.exists_mem_of_ne_nil _ ih1
      obtain ⟨p, hp, hpo⟩ := ord_more (ih2 o ho).1 (by omega)
      have : (tells M o p, o ++ [p]) ∈ cand k M (laps k M t).2 := mem_cand.mpr ⟨o, ho, p, hp, hpo, rfl⟩
      rw [z] at this
      cases this
    obtain ⟨m, h1, h2, h3⟩ := (scan_least (cand k M (laps k M t).2)).2 hne
    show (scan (cand k M (laps k M t).2)).2 ≠ [] ∧ ∀ o ∈ (scan (cand k M (laps k M t).2)).2, Ord k (t + 1) o ∧ Coded M o ((laps k M t).1 ++ (scan (cand k M (laps k M t).2)).1.getD [])
    rw [h1, h3]
    refine ⟨?_, fun o ho => ?_⟩
    · obtain ⟨c, hc, hcm⟩ := h2.1
      intro z
      have : c.2 ∈ ((cand k M (laps k M t).2).filter fun c => decide (c.1 = m)).map Prod.snd := List.mem_map.mpr ⟨c, List.mem_filter.mpr ⟨hc, by simpa using hcm⟩, rfl⟩
      rw [z] at this
      cases this
    · obtain ⟨c, hc, rfl⟩ := List.mem_map.mp ho
      obtain ⟨hc1, hc2⟩ := List.mem_filter.mp hc
      obtain ⟨o1, ho1, p, hp, hpo, rfl⟩ := mem_cand.mp hc1
      obtain ⟨O, C⟩ := ih2 o1 ho1
      refine ⟨⟨by simp [O.len], ?_, fun x hx => ?_⟩, ?_⟩
      · rw [List.nodup_append]
        exact ⟨O.nd, by simp, fun a ha b hb => by rw [List.mem_singleton.mp hb]; exact fun z => hpo (z ▸ ha)⟩
      · rcases List.mem_append.mp hx with z | z
        · exact O.lt x z
        · rw [List.mem_singleton.mp z]
          exact hp
      · have e : tells M o1 p = m := of_decide_eq_true hc2
        rw [Option.getD_some, ← e]
        exact .snoc p C
/-! ### what is moved has the same orders, moved -/
theorem tells_map {k : Nat} {M : List (List Nat)} {q : List Nat} (hq : q.Perm (List.range k)) {o : List Nat} {p : Nat} (ho : ∀ x ∈ o, x < k) (hp : p < k) : tells (movedN k M q) (o.map fun x => q.getD x 0) (q.getD p 0) = tells M o p := by
  have hl := perm_len hq
  have gd : ∀ x, x < k → q[x]? = some (q.getD x 0) := fun x hx => by
    rw [List.getD_eq_getElem?_getD, List.getElem?_eq_getElem (by omega)]
    rfl
  unfold tells
  rw [moved_at hq (gd p hp) (gd p hp), List.flatMap_map]
  congr 1
  rw [List.flatMap_def, List.flatMap_def]
  congr 1
  refine List.map_congr_left fun c hc => ?_
  rw [moved_at hq (gd p hp) (gd c (ho c hc)), moved_at hq (gd c (ho c hc)) (gd p hp)]
theorem laps_moved {k : Nat} {M : List (List Nat)} {q : List Nat} (hq : q.Perm (List.range k)) : ∀ t, t ≤ k → (laps k (movedN k M q) t).1 = (laps k M t).1 ∧ ∀ o, o ∈ (laps k (movedN k M q) t).2 ↔ ∃ o0 ∈ (laps k M t).2, o = o0.map fun x => q.getD x 0
  | 0, _ => ⟨rfl, fun o => by simp [laps]⟩
  | t + 1, ht => by
    obtain ⟨ih1, ih2⟩ := laps_moved hq t (by omega)
    obtain ⟨a1, a2⟩ := laps_ok k M t (by omega)
    obtain ⟨b1, b2⟩ := laps_ok k (movedN k M q) t (by omega)
    have hl := perm_len hq
    have gd : ∀ x, x < k → q[x]? = some (q.getD x 0) := fun x hx => by
      rw [List.getD_eq_getElem?_getD, List.getElem?_eq_getElem (by omega)]
      rfl
    have inj : ∀ x y, x < k → y < k → q.getD x 0 = q.getD y 0 → x = y := fun x y hx hy e => by
      have h1 := idx_of_get (perm_nd hq) (gd x hx)
      have h2 := idx_of_get (perm_nd hq) (gd y hy)
      rw [e] at h1
      omega
    -- the candidates go over
    have cc : ∀ c, c ∈ cand k (movedN k M q) (laps k (movedN k M q) t).2 ↔ ∃ c0 ∈ cand k M (laps k M t).2, c = (c0.1, c0.2.map fun x => q.getD x 0) := fun c => by
      rw [mem_cand]
      constructor
      · rintro ⟨o, ho, p, hp, hpo, rfl⟩
        obtain ⟨o0, ho0, rfl⟩ := (ih2 o).mp ho
        have hpm := get_idx (hq.mem_iff.mpr (List.mem_range.mpr hp))
        have hi : q.idxOf p < k := by
          have := (List.getElem?_eq_some_iff.mp hpm).1
          omega
        have ep : q.getD (q.idxOf p) 0 = p := by
          rw [List.getD_eq_getElem?_getD, hpm]
          rfl
        refine ⟨(tells M o0 (q.idxOf p), o0 ++ [q.idxOf p]), mem_cand.mpr ⟨o0, ho0, q.idxOf p, hi, fun z => hpo (List.mem_map.mpr ⟨_, z, ep⟩), rfl⟩, ?_⟩
        have := tells_map (M := M) hq (a2 o0 ho0).1.lt hi
        rw [ep] at this
        rw [this, List.map_append, List.map_cons, List.map_nil, ep]
      · rintro ⟨c0, hc0, rfl⟩
        obtain ⟨o0, ho0, p, hp, hpo, rfl⟩ := mem_cand.mp hc0
        refine ⟨o0.map fun x => q.getD x 0, (ih2 _).mpr ⟨o0, ho0, rfl⟩, q.getD p 0, perm_lt hq (gd p hp), fun z => ?_, ?_⟩
        · obtain ⟨x, hx, e⟩ := List.mem_map.mp z
          exact hpo (inj x p ((a2 o0 ho0).1.lt x hx) hp e ▸ hx)
        · rw [tells_map hq (a2 o0 ho0).1.lt hp, List.map_append, List.map_cons, List.map_nil]
    have ne : ∀ (N : List (List Nat)), (laps k N t).2 ≠ [] → (∀ o ∈ (laps k N t).2, Ord k t o ∧ Coded N o (laps k N t).1) → cand k N (laps k N t).2 ≠ [] := fun N h1 h2 z => by
      obtain ⟨o, ho⟩ := List.exists_mem_of_ne_nil _ h1
      obtain ⟨p, hp, hpo⟩ := ord_more (h2 o ho).1 (by omega)
      have : (tells N o p, o ++ [p]) ∈ cand k N (laps k N t).2 := mem_cand.mpr ⟨o, ho, p, hp, hpo, rfl⟩
      rw [z] at this
      cases this
    obtain ⟨m, m1, m2, m3⟩ := (scan_least _).2 (ne M a1 a2)
    obtain ⟨n, n1, n2, n3⟩ := (scan_least _).2 (ne _ b1 b2)
    have hmn : n = m := least_one n2 m2 fun t' => by
      constructor
      · rintro ⟨c, hc, rfl⟩
        obtain ⟨c0, hc0, rfl⟩ := (cc c).mp hc
        exact ⟨c0, hc0, rfl⟩
      · rintro ⟨c0, hc0, rfl⟩
        exact ⟨_, (cc _).mpr ⟨c0, hc0, rfl⟩, rfl⟩
    subst hmn
    show _ ++ (scan (cand k (movedN k M q) (laps k (movedN k M q) t).2)).1.getD [] = _ ++ (scan (cand k M (laps k M t).2)).1.getD [] ∧ ∀ o, o ∈ (scan (cand k (movedN k M q) (laps k (movedN k M q) t).2)).2 ↔ ∃ o0 ∈ (scan (cand k M (laps k M t).2)).2, o = o0.map fun x => q.getD x 0
    rw [m1, n1, m3, n3, ih1]
    refine ⟨rfl, fun o => ?_⟩
    simp only [List.mem_map, List.mem_filter, decide_eq_true_eq]
    constructor
    · rintro ⟨c, ⟨hc, hcn⟩, rfl⟩
      obtain ⟨c0, hc0, rfl⟩ := (cc c).mp hc
      exact ⟨c0.2, ⟨c0, ⟨hc0, hcn⟩, rfl⟩, rfl⟩
    · rintro ⟨o0, ⟨c0, ⟨hc0, hcn⟩, rfl⟩, rfl⟩
      exact ⟨_, ⟨(cc _).mpr ⟨c0, hc0, rfl⟩, hcn⟩, rfl⟩
/-! ### one code, one picture -/
theorem tells_len (M : List (List Nat)) (o : List Nat) (p : Nat) : (tells M o p).length = 2 * o.length + 1 := by
  unfold tells
  rw [List.length_append]
  congr 1
  induction o with
  | nil => rfl
  | cons a o ih =>
    rw [List.flatMap_cons, List.length_append, ih]
    simp
    omega
theorem tells_eq {M N : List (List Nat)} : ∀ {o o' : List Nat} {p p' : Nat}, o.length = o'.length → tells M o p = tells N o' p' → at2 M p p = at2 N p' p' ∧ ∀ i a a' : Nat, o[i]? = some a → o'[i]? = some a' → at2 M p a = at2 N p' a' ∧ at2 M a p = at2 N a' p'
  | [], [], p, p', _, h => ⟨by simpa [tells] using h, fun i a a' h => by simp at h⟩
  | [], _ :: _, _, _, h, _ => by simp at h
  | _ :: _, [], _, _, h, _ => by simp at h
  | c :: o, c' :: o', p, p', hl, h => by
    have h' : at2 M p c :: at2 M c p :: tells M o p = at2 N p' c' :: at2 N c' p' :: tells N o' p' := by simpa [tells] using h
    injection h' with e1 h'
    injection h' with e2 h'
    obtain ⟨i1, i2⟩ := tells_eq (o := o) (o' := o') (by simpa using hl) h'
    refine ⟨i1, fun i a a' ha ha' => ?_⟩
    cases i with
    | zero =>
      cases (Option.some.inj ha)
      cases (Option.some.inj ha')
      exact ⟨e1, e2⟩
    | succ i => exact i2 i a a' (by simpa using ha) (by simpa using ha')
theorem coded_eq {M N : List (List Nat)} {o c : List Nat} (h : Coded M o c) : ∀ {o' : List Nat}, Coded N o' c → o.length = o'.length → ∀ i j a b a' b' : Nat, o[i]? = some a → o[j]? = some b → o'[i]? = some a' → o'[j]? = some b' → at2 M a b = at2 N a' b' := by
  induction h with
  | nil =>
    intro o' h' hl i j a b a' b' ha
    simp at ha
  | snoc p h ih =>
    rename_i o c
    intro o' h' hl
    generalize hc : c ++ tells M o p = d at h'
    cases h' with
    | nil => simp at hl
    | snoc p' h' =>
      rename_i o1 c1
      have hol : o.length = o1.length := by simpa using hl
      have ht : (tells M o p).length = (tells N o1 p').length := by rw [tells_len, tells_len, hol]
      obtain ⟨e1, e2⟩ := List.append_inj' hc ht
      subst e1
      obtain ⟨t1, t2⟩ := tells_eq hol e2
      have ihh := ih h' hol
      intro i j a b a' b' ha hb ha' hb'
      have sp : ∀ {l : List Nat} {z x : Nat} {n : Nat}, (l ++ [z])[n]? = some x → (n < l.length ∧ l[n]? = some x) ∨ (n = l.length ∧ x = z) := fun {l z x n} h => by
        rcases Nat.lt_or_ge n l.length with q | q
        · rw [List.getElem?_append_left q] at h
          exact .inl ⟨q, h⟩
        · rw [List.getElem?_append_right q] at h
          have hn := (List.getElem?_eq_some_iff.mp h).1
          simp at hn
          have : n = l.length := by omega
          subst this
          simp at h
          exact .inr ⟨rfl, h.symm⟩
      rcases sp ha with ⟨qa, ga⟩ | ⟨qa, rfl⟩
      · rcases sp ha' with ⟨qa', ga'⟩ | ⟨qa', rfl⟩
        · rcases sp hb with ⟨qb, gb⟩ | ⟨qb, rfl⟩
          · rcases sp hb' with ⟨qb', gb'⟩ | ⟨qb', rfl⟩
            · exact ihh i j a b a' b' ga gb ga' gb'
            · omega
          · rcases sp hb' with ⟨qb', gb'⟩ | ⟨qb', rfl⟩
            · omega
            · exact (t2 i a a' ga ga').2
        · omega
      · rcases sp ha' with ⟨qa', ga'⟩ | ⟨qa', rfl⟩
        · omega
        · rcases sp hb with ⟨qb, gb⟩ | ⟨qb, rfl⟩
          · rcases sp hb' with ⟨qb', gb'⟩ | ⟨qb', rfl⟩
            · exact (t2 j b b' gb gb').1
            · omega
          · rcases sp hb' with ⟨qb', gb'⟩ | ⟨qb', rfl⟩
            · omega
            · exact t1
/-! ### sizes, and the scan in two parts -/
def pre1 (s : Option (List Nat) × List (List Nat)) (c : List Nat × List Nat) : Option (List Nat) × List (List Nat) := if (match s.1 with | none => true | some b => ltN c.1 b) = true then (some c.1, []) else s
theorem step1_pre (s : Option (List Nat) × List (List Nat)) (c : List Nat × List Nat) : step1 s c = if some c.1 = (pre1 s c).1 then ((pre1 s c).1, (pre1 s c).2 ++ [c.2]) else pre1 s c := rfl
theorem pre1_len (s : Option (List Nat) × List (List Nat)) (c : List Nat × List Nat) : (pre1 s c).2.length ≤ s.2.length := by
  unfold pre1
  split
  · split
    · exact Nat.zero_le _
    · exact Nat.le_refl _
  · split
    · exact Nat.zero_le _
    · exact Nat.le_refl _
theorem step1_len (s : Option (List Nat) × List (List Nat)) (c : List Nat × List Nat) : (step1 s c).2.length ≤ s.2.length + 1 := by
  have h := pre1_len s c
  rw [step1_pre]
  split
  · rw [List.length_append]
    exact Nat.add_le_add_right h 1
  · omega
theorem scan_len (cs : List (List Nat × List Nat)) : (scan cs).2.length ≤ cs.length := by
  refine snoc_ind (P := fun cs => (scan cs).2.length ≤ cs.length) (Nat.le_refl _) (fun cs c ih => ?_) cs
  rw [scan_snoc, List.length_append]
  have := step1_len (scan cs) c
  simp
  omega
theorem rest_len (k : Nat) (o : List Nat) : (rest k o).length ≤ k := by
  unfold rest
  refine Nat.le_trans (List.length_filter_le _ _) ?_
  rw [List.length_range]
  exact Nat.le_refl _
theorem cand_snoc {k : Nat} {M : List (List Nat)} {os : List (List Nat)} {o : List Nat} : cand k M (os ++ [o]) = cand k M os ++ cand1 k M o := by
  unfold cand
  rw [List.flatMap_append]
  simp
theorem cand_len {k : Nat} (hk : k ≤ 5) (M : List (List Nat)) (os : List (List Nat)) : (cand k M os).length ≤ os.length * 5 := by
  refine snoc_ind (P := fun os => (cand k M os).length ≤ os.length * 5) (Nat.le_refl _) (fun os o ih => ?_) os
  rw [cand_snoc, List.length_append, List.length_append]
  have h1 : (cand1 k M o).length ≤ k := by
    unfold cand1
    rw [List.length_map]
    exact rest_len k o
  simp
  omega
theorem laps_len {k : Nat} (hk : k ≤ 5) (M : List (List Nat)) : ∀ t, (laps k M t).2.length ≤ 5 ^ t
  | 0 => Nat.le_refl _
  | t + 1 => by
    have h1 := laps_len hk M t
    have h2 : (laps k M (t + 1)).2.length ≤ _ := scan_len (cand k M (laps k M t).2)
    have h3 := cand_len hk M (laps k M t).2
    rw [Nat.pow_succ]
    omega
theorem pow5 : ∀ {t : Nat}, t ≤ 5 → 5 ^ t ≤ 3125
  | 0, _ => by decide
  | 1, _ => by decide
  | 2, _ => by decide
  | 3, _ => by decide
  | 4, _ => by decide
  | 5, _ => by decide
  | t + 6, h => by omega
theorem coded_len {M : List (List Nat)} {o c : List Nat} (h : Coded M o c) : o.length ≤ 6 → c.length ≤ 13 * o.length := by
  induction h with
  | nil => intro _; exact Nat.zero_le _
  | snoc p h ih =>
    intro hl
    rw [List.length_append] at hl
    rw [List.length_append, List.length_append, tells_len]
    have := ih (by omega)
    simp at hl ⊢
    omega
theorem cand_ne {k t : Nat} {M : List (List Nat)} (ht : t < k) : cand k M (laps k M t).2 ≠ [] := fun z => by
  obtain ⟨h1, h2⟩ := laps_ok k M t (by omega)
  obtain ⟨o, ho⟩ := List.exists_mem_of_ne_nil _ h1
  obtain ⟨p, hp, hpo⟩ := ord_more (h2 o ho).1 ht
  have : (tells M o p, o ++ [p]) ∈ cand k M (laps k M t).2 := mem_cand.mpr ⟨o, ho, p, hp, hpo, rfl⟩
  rw [z] at this
  cases this
end WT
/-! Positions from orders: the plain law. -/
namespace WT
open PySem PySem.Spec PyProof.Rows L2 Evl
def invN (k : Nat) (o : List Nat) : List Nat := (List.range k).map fun x => o.idxOf x
def zipPos (k : Nat) (o o' : List Nat) : List Nat := (List.range k).map fun x => o'.getD (o.idxOf x) 0
theorem ord_perm {k : Nat} {o : List Nat} (h : Ord k k o) : o.Perm (List.range k) := perm_of h.nd h.lt h.len
theorem tab_get {k : Nat} {f : Nat → Nat} {x : Nat} (h : x < k) : ((List.range k).map f)[x]? = some (f x) := by
  rw [List.getElem?_map, List.getElem?_range h]
  rfl
theorem tab_of {k : Nat} {f : Nat → Nat} {F : List Nat} (hl : F.length = k) (h : ∀ x, x < k → F[x]? = some (f x)) : F = (List.range k).map f := by
  refine List.ext_getElem? fun x => ?_
  by_cases hx : x < k
  · rw [h x hx, tab_get hx]
  · rw [List.getElem?_eq_none (by omega), List.getElem?_eq_none (by rw [List.length_map, List.length_range]; omega)]
theorem tab_perm {k : Nat} {f : Nat → Nat} (h1 : ∀ x, x < k → f x < k) (h2 : ∀ x y, x < k → y < k → f x = f y → x = y) : ((List.range k).map f).Perm (List.range k) := by
  refine perm_of ?_ ?_ (by rw [List.length_map, List.length_range])
  · refine List.pairwise_iff_getElem.mpr fun i j hi hj hij e => ?_
    rw [List.length_map, List.length_range] at hi hj
    simp at e
    have := h2 i j hi hj e
    omega
  · intro x hx
    obtain ⟨y, hy, rfl⟩ := List.mem_map.mp hx
    exact h1 y (List.mem_range.mp hy)
theorem idx_lt {k : Nat} {o : List Nat} (h : o.Perm (List.range k)) {x : Nat} (hx : x < k) : o.idxOf x < k ∧ o[o.idxOf x]? = some x := by
  have h1 := get_idx (h.mem_iff.mpr (List.mem_range.mpr hx))
  have h2 := (List.getElem?_eq_some_iff.mp h1).1
  have h3 := perm_len h
  exact ⟨by omega, h1⟩
theorem inv_perm {k : Nat} {o : List Nat} (h : o.Perm (List.range k)) : (invN k o).Perm (List.range k) := by
  refine tab_perm (fun x hx => (idx_lt h hx).1) fun x y hx hy e => ?_
  have h1 := (idx_lt h hx).2
  have h2 := (idx_lt h hy).2
  rw [e, h2] at h1
  exact (Option.some.inj h1).symm
theorem zip_perm {k : Nat} {o o' : List Nat} (h : o.Perm (List.range k)) (h' : o'.Perm (List.range k)) : (zipPos k o o').Perm (List.range k) := by
  have hl := perm_len h'
  have gd : ∀ x, x < k → o'[x]? = some (o'.getD x 0) := fun x hx => by
    rw [List.getD_eq_getElem?_getD, List.getElem?_eq_getElem (by omega)]
    rfl
  refine tab_perm (fun x hx => perm_lt h' (gd _ (idx_lt h hx).1)) fun x y hx hy e => ?_
  have h1 := idx_of_get (perm_nd h') (gd _ (idx_lt h hx).1)
  have h2 := idx_of_get (perm_nd h') (gd _ (idx_lt h hy).1)
  rw [e, h2] at h1
  have h3 := (idx_lt h hx).2
  have h4 := (idx_lt h hy).2
  rw [← h1, h4] at h3
  exact (Option.some.inj h3).symm
/-- the places of two orders of one code, each sent to its like -/
theorem zip_moves {k : Nat} {M N : List (List Nat)} {o o' c : List Nat} (hN : Sq k N) (h : Ord k k o) (h' : Ord k k o') (C : Coded M o c) (C' : Coded N o' c) : movedN k M (zipPos k o o') = N := by
  have p := ord_perm h
  have p' := ord_perm h'
  have hl := perm_len p'
  have gd : ∀ x, x < k → o'[x]? = some (o'.getD x 0) := fun x hx => by
    rw [List.getD_eq_getElem?_getD, List.getElem?_eq_getElem (by omega)]
    rfl
  refine moved_of (zip_perm p p') hN fun i j a b ha hb => ?_
  have hi : i < k := by
    have := (List.getElem?_eq_some_iff.mp ha).1
    rw [perm_len (zip_perm p p')] at this
    exact this
  have hj : j < k := by
    have := (List.getElem?_eq_some_iff.mp hb).1
    rw [perm_len (zip_perm p p')] at this
    exact this
  rw [zipPos, tab_get hi] at ha
  rw [zipPos, tab_get hj] at hb
  cases (Option.some.inj ha)
  cases (Option.some.inj hb)
  exact (coded_eq C C' (by rw [h.len, h'.len]) _ _ _ _ _ _ (idx_lt p hi).2 (idx_lt p hj).2 (gd _ (idx_lt p hi).1) (gd _ (idx_lt p hj).1)).symm
/-! ### the least picture -/
def leastD (k : Nat) (M : List (List Nat)) : PyData := match (laps k M k).2 with
  | [] => .none
  | o :: os => PySem.W.minD (tN (invN k o)) (os.map fun o => tN (invN k o))
def leastPos (k : Nat) (M : List (List Nat)) : List Nat := match leastD k M with
  | .tuple ds => ds.map gNat
  | _ => []
theorem minD_mem : ∀ (ds : List PyData) (d : PyData), PySem.W.minD d ds = d ∨ PySem.W.minD d ds ∈ ds
  | [], d => .inl rfl
  | e :: ds, d => by
    have h : PySem.W.minD d (e :: ds) = PySem.W.minD (if PySem.W.dataLt e d then e else d) ds := rfl
    rw [h]
    rcases minD_mem ds (if PySem.W.dataLt e d then e else d) with z | z
    · rw [z]
      split
      · exact .inr List.mem_cons_self
      · exact .inl rfl
    · exact .inr (List.mem_cons_of_mem _ z)
theorem gNat_tN (q : List Nat) : (q.map fun n : Nat => PyData.int (n : Int)).map gNat = q := by
  rw [List.map_map]
  have : q.map (gNat ∘ fun n : Nat => PyData.int (n : Int)) = q.map id := List.map_congr_left fun n _ => rfl
  rw [this, List.map_id]
theorem least_ok (k : Nat) (M : List (List Nat)) : leastD k M = tN (leastPos k M) ∧ (leastPos k M).Perm (List.range k) := by
  obtain ⟨l1, l2⟩ := laps_ok k M k (Nat.le_refl _)
  have h : ∃ o ∈ (laps k M k).2, leastD k M = tN (invN k o) := by
    unfold leastD
    split
    · rename_i h
      exact absurd h l1
    · rename_i o os h
      rw [h]
      rcases minD_mem (os.map fun o => tN (invN k o)) (tN (invN k o)) with z | z
      · exact ⟨o, List.mem_cons_self, z⟩
      · obtain ⟨o', ho', e⟩ := List.mem_map.mp z
        exact ⟨o', List.mem_cons_of_mem _ ho', e.symm⟩
  obtain ⟨o, ho, e⟩ := h
  have e2 : leastPos k M = invN k o := by
    unfold leastPos
    rw [e]
    exact gNat_tN _
  rw [e2]
  exact ⟨e, inv_perm (ord_perm (l2 o ho).1)⟩
/-! ### same pictures -/
theorem moved_pic {k : Nat} {M : List (List Nat)} {q : List Nat} (h : ∀ r ∈ M, ∀ x ∈ r, x ≤ 2) : ∀ r ∈ movedN k M q, ∀ x ∈ r, x ≤ 2 := by
  have ha : ∀ i j, at2 M i j ≤ 2 := fun i j => by
    unfold at2
    rw [List.getD_eq_getElem?_getD, List.getD_eq_getElem?_getD]
    cases z : M[i]? with
    | none => simp
    | some r =>
      rw [Option.getD_some]
      cases z2 : r[j]? with
      | none => simp
      | some x => exact h r (List.mem_of_getElem? z) x (List.mem_of_getElem? z2)
  intro r hr x hx
  obtain ⟨a, _, rfl⟩ := List.mem_map.mp hr
  obtain ⟨b, _, rfl⟩ := List.mem_map.mp hx
  exact ha _ _
/-- if the pictures moved to their least are one, one can be moved to the other -/
theorem moved_back {k : Nat} {M N : List (List Nat)} {p q : List Nat} (hN : Sq k N) (hp : p.Perm (List.range k)) (hq : q.Perm (List.range k)) (e : movedN k M p = movedN k N q) : ∃ r, r.Perm (List.range k) ∧ movedN k M r = N := by
  have hql := perm_len hq
  have hpl := perm_len hp
  have gp : ∀ x, x < k → p[x]? = some (p.getD x 0) := fun x hx => by
    rw [List.getD_eq_getElem?_getD, List.getElem?_eq_getElem (by omega)]
    rfl
  have hr : ((List.range k).map fun x => q.idxOf (p.getD x 0)).Perm (List.range k) := by
    refine tab_perm (fun x hx => (idx_lt hq (perm_lt hp (gp x hx))).1) fun x y hx hy z => ?_
    have h1 := (idx_lt hq (perm_lt hp (gp x hx))).2
    have h2 := (idx_lt hq (perm_lt hp (gp y hy))).2
    rw [z, h2] at h1
    have h3 := idx_of_get (perm_nd hp) (gp x hx)
    have h4 := idx_of_get (perm_nd hp) (gp y hy)
    rw [← Option.some.inj h1, h4] at h3
    exact h3.symm
  refine ⟨_, hr, moved_of hr hN fun i j a b ha hb => ?_⟩
  have hi : i < k := by
    have := (List.getElem?_eq_some_iff.mp ha).1
    rw [perm_len hr] at this
    exact this
  have hj : j < k := by
    have := (List.getElem?_eq_some_iff.mp hb).1
    rw [perm_len hr] at this
    exact this
  rw [tab_get hi] at ha
  rw [tab_get hj] at hb
  cases (Option.some.inj ha)
  cases (Option.some.inj hb)
  rw [← moved_at (M := M) hp (gp i hi) (gp j hj), e]
  exact (moved_at hq (idx_lt hq (perm_lt hp (gp i hi))).2 (idx_lt hq (perm_lt hp (gp j hj))).2).symm
end WT
/-! Toolkit T: what the readings of many laws share: the pot, pictures, orders. -/
namespace WT
open PySem PySem.Spec PyProof.Rows L2 Evl
/-! ### the pot -/
/-- the pot: what is left of the cell's own digits, the mixed number, how many were taken (at most n) -/
def PotAt (H : Hp) (p : Addr) (n : Nat) : Prop := ∃ a b c : Int, H p = some (.lst [.int a, .int b, .int c]) ∧ 0 ≤ b ∧ b < 2 ^ 61 ∧ 0 ≤ c ∧ c ≤ n
/-- all but one object is as it was -/
def But (p : Addr) (H H' : Hp) : Prop := ∀ q o, q ≠ p → H q = some o → H' q = some o
theorem But.refl (p : Addr) (H : Hp) : But p H H := fun _ _ _ h => h
theorem But.trans {p : Addr} {H H1 H2 : Hp} (a : But p H H1) (b : But p H1 H2) : But p H H2 := fun q o n h => b q o n (a q o n h)
theorem But.of {p : Addr} {H H' : Hp} (e : Ex H H') : But p H H' := fun q o _ h => e q o h
theorem But.put {p : Addr} {H : Hp} {o : HO} : But p H (upd H p o) := fun q u n h => by rw [upd_ne n]; exact h
theorem PotAt.ex {H H' : Hp} {p : Addr} {n : Nat} (h : PotAt H p n) (e : Ex H H') : PotAt H' p n := by
  obtain ⟨a, b, c, h1, h2⟩ := h
  exact ⟨a, b, c, e _ _ h1, h2⟩
theorem PotAt.le {H : Hp} {p : Addr} {n m : Nat} (h : PotAt H p n) (e : n ≤ m) : PotAt H p m := by
  obtain ⟨a, b, c, h1, h2, h3, h4, h5⟩ := h
  exact ⟨a, b, c, h1, h2, h3, h4, by omega⟩
theorem PotAt.but {H H' : Hp} {p q : Addr} {n : Nat} (h : PotAt H p n) (e : But q H H') (hn : p ≠ q) : PotAt H' p n := by
  obtain ⟨a, b, c, h1, h2⟩ := h
  exact ⟨a, b, c, e _ _ hn h1, h2⟩
theorem tex_but {p : Addr} {H H' : Hp} {xs : List V} (e : But p H H') (h : H p = some (.lst xs)) : TEx H H' := fun a ys r => by
  have n : a ≠ p := fun z => by
    subst z
    rw [h] at r
    cases r
  exact e _ _ n r
theorem PotAt.tex {p : Addr} {H H' : Hp} {n : Nat} (h : PotAt H p n) (e : But p H H') : TEx H H' := by
  obtain ⟨a, b, c, h1, _⟩ := h
  exact tex_but e h1
/-- fresh ahead is fresh before -/
theorem But.fresh {p q : Addr} {H H' : Hp} (e : But p H H') (h : H' q = none) (n : q ≠ p) : H q = none := by
  cases z : H q with
  | none => rfl
  | some o =>
    rw [e q o n z] at h
    cases h
def spPot (K : PySem.W.Frag) : Sp := fun vs H Q _ => ∃ (a : Addr) (ns : List Int) (i : Nat), vs = [.ref a, .int (i : Int)] ∧ SqL K H a (ns.map V.int) ∧ ns.length ≤ 63 ∧ i < 1000 ∧ ∀ p H', H p = none → Ex H H' → PotAt H' p 0 → Q (.ref p) H'
def spTake : Sp := fun vs H Q _ => ∃ (p : Addr) (n u : Nat), vs = [.ref p, .int (u : Int)] ∧ PotAt H p n ∧ n < 1000000 ∧ 0 < u ∧ u < 1073741824 ∧ ∀ (d : Nat) H', d < u → But p H H' → PotAt H' p (n + 1) → Q (.int (d : Int)) H'
section
variable {P : Program} {w : World} {K : PySem.W.Frag} {mg : Str → Option Value} {base : Heap}
theorem bits_le {i : Int} {n : Nat} (h : i.natAbs < 2 ^ n) (hn : 0 < n) : Builtin.Int.intBits i ≤ n := by
  unfold Builtin.Int.intBits
  split
  · exact Nat.zero_le _
  · have := PySem.Flt.log2_lt_of hn h
    omega
end
/-- what a def answers to arguments of a kind: frozen data -/
def spD (K : PySem.W.Frag) (n : Nat) (R : List Ag → PyData → Prop) : Sp := fun vs H Q _ => ∃ as d, as.length = n ∧ AgL K H as vs ∧ R as d ∧ ∀ v H', Ex H H' → Fz K H' d v → Q v H'
theorem pr_D {K : PySem.W.Frag} {n : Nat} {R : List Ag → PyData → Prop} {as : List Ag} {H : Hp} {d : PyData} (h : R as d) (hl : as.length = n := by rfl) : Pr K (spD K n R) as H d := fun H1 _ vs hv Q q E => ⟨as, d, hl, hv, h, q⟩
theorem spD_len {K : PySem.W.Frag} {n : Nat} {R : List Ag → PyData → Prop} {vs : List V} {H : Hp} {Q : VK} {E : XK} (h : spD K n R vs H Q E) : vs.length = n := by
  obtain ⟨as, d, h1, h2, _⟩ := h
  rw [agl_len h2, h1]
theorem agl1 {K : PySem.W.Frag} {H : Hp} {a : Ag} {vs : List V} (h : AgL K H [a] vs) : ∃ x, vs = [x] ∧ AgO K H a x := by
  obtain ⟨x, r, rfl, hx, hr⟩ := h
  exact ⟨x, by rw [show r = [] from hr], hx⟩
theorem agl2 {K : PySem.W.Frag} {H : Hp} {a b : Ag} {vs : List V} (h : AgL K H [a, b] vs) : ∃ x y, vs = [x, y] ∧ AgO K H a x ∧ AgO K H b y := by
  obtain ⟨x, r, rfl, hx, hr⟩ := h
  obtain ⟨y, rfl, hy⟩ := agl1 hr
  exact ⟨x, y, rfl, hx, hy⟩
theorem agl3 {K : PySem.W.Frag} {H : Hp} {a b c : Ag} {vs : List V} (h : AgL K H [a, b, c] vs) : ∃ x y z, vs = [x, y, z] ∧ AgO K H a x ∧ AgO K H b y ∧ AgO K H c z := by
  obtain ⟨x, r, rfl, hx, hr⟩ := h
  obtain ⟨y, z, rfl, hy, hz⟩ := agl2 hr
  exact ⟨x, y, z, rfl, hx, hy, hz⟩
theorem agv {K : PySem.W.Frag} {H : Hp} {x y : V} (h : AgO K H (.v x) y) : y = x := h
theorem agd {K : PySem.W.Frag} {H : Hp} {d : PyData} {y : V} (h : AgO K H (.d d) y) : Fz K H d y := h
/-- a picture: a square of marks -/
structure Pic (k : Nat) (M : List (List Nat)) : Prop where
  pos : 1 ≤ k
  le : k ≤ 5
  len : M.length = k
  row : ∀ r ∈ M, r.length = k
  mark : ∀ r ∈ M, ∀ x ∈ r, x ≤ 2
def rIsInt (as : List Ag) (d : PyData) : Prop := ∃ i lo hi : Int, as = [.v (.int i), .v (.int lo), .v (.int hi)] ∧ d = .bool (decide (lo ≤ i) && decide (i ≤ hi))
def rIsPos (as : List Ag) (d : PyData) : Prop := ∃ (k : Nat) (p : List Nat), as = [.v (.int (k : Int)), .d (tN p)] ∧ k ≤ 5 ∧ p.Perm (List.range k) ∧ d = .bool true
def rIsPic (as : List Ag) (d : PyData) : Prop := ∃ (k : Nat) (M : List (List Nat)), as = [.d (tNN M)] ∧ Pic k M ∧ d = .bool true
def rLook (as : List Ag) (d : PyData) : Prop := ∃ (k : Nat) (M : List (List Nat)), as = [.d (tNN M)] ∧ Pic k M ∧ d = .none
def rLooks (as : List Ag) (d : PyData) : Prop := ∃ (k : Nat) (M N : List (List Nat)), as = [.d (tNN M), .d (tNN N)] ∧ Pic k M ∧ Pic k N ∧ d = .none
theorem Pic.sq {k : Nat} {M : List (List Nat)} (h : Pic k M) : Sq k M := ⟨h.len, h.row⟩
def rMoved (as : List Ag) (d : PyData) : Prop := ∃ (k : Nat) (M : List (List Nat)) (p : List Nat), as = [.d (tNN M), .d (tN p)] ∧ Sq k M ∧ k ≤ 5 ∧ p.Perm (List.range k) ∧ d = tNN (movedN k M p)
theorem But.mut {p r : Addr} {H H' : Hp} {o : HO} (e : But p H H') (h : H r = none) : But p H (upd H' r o) := fun q u n hq => by
  have nr : q ≠ r := fun z => by
    rw [z, h] at hq
    cases hq
  rw [upd_ne nr]
  exact e q u n hq
theorem But.mutp {p : Addr} {H H' : Hp} {o : HO} (e : But p H H') : But p H (upd H' p o) := e.trans But.put
theorem But.ex {p : Addr} {H H1 H2 : Hp} (e : But p H H1) (x : Ex H1 H2) : But p H H2 := e.trans (But.of x)
theorem But.sql {K : PySem.W.Frag} {p a : Addr} {H H' : Hp} {xs : List V} (e : But p H H') (n : a ≠ p) (h : H a = some (.lst xs)) : H' a = some (.lst xs) := e _ _ n h
theorem But.lst {p r : Addr} {H H' : Hp} {xs : List V} {n : Nat} (e : But p H H') (hP : PotAt H' p n) (h : H r = some (.lst xs)) (hr : r ≠ p) : H' r = some (.lst xs) := e _ _ hr h
theorem fresh_ne {H : Hp} {p r : Addr} {n : Nat} (hP : PotAt H p n) (h : H r = none) : r ≠ p := fun z => by
  obtain ⟨a, b, c, h1, _⟩ := hP
  rw [z, h1] at h
  cases h
theorem x_take {σ : L2.St} {H : Hp} {ta tb : TE} {p : Addr} {n u : Nat} {Q : VK} (ha : Ev ta σ H (.ref p)) (hb : Ev tb σ H (.int (u : Int))) (hP : PotAt H p n) (hn : n < 1000000) (h0 : 0 < u) (h1 : u < 1073741824)
    (k : ∀ (d : Nat) H', d < u → But p H H' → PotAt H' p (n + 1) → Q (.int (d : Int)) H') : tCall spTake [] E0 (tCons ta (tCons tb tNil)) σ H Q :=
  ha H (Ex.refl H) _ fun H1 e1 => hb H1 e1 _ fun H2 e2 => ⟨p, n, u, rfl, hP.ex (e1.trans e2), hn, h0, h1, fun d H' hd e hP' => k d H' hd ((But.of (e1.trans e2)).trans e) hP'⟩
/-- a new list of some of the pool's, each once -/
def spSome (K : PySem.W.Frag) : Sp := fun vs H Q _ => ∃ (p q : Addr) (n many : Nat) (ds : List PyData) (xs : List V), vs = [.ref p, .ref q, .int (many : Int)] ∧ PotAt H p n ∧ n + many < 1000000 ∧ SqL K H q xs ∧ FzL K H ds xs ∧ many ≤ ds.length ∧ ds.length ≤ 1000 ∧
  ∀ r H' es ys rs, H r = none → But p H H' → PotAt H' p (n + many) → H' r = some (.lst ys) → FzL K H' es ys → es.length = many → (es ++ rs).Perm ds → Q (.ref r) H'
section
variable {P : Program} {w : World} {K : PySem.W.Frag} {mg : Str → Option Value} {base : Heap}
/-- a row of all places drawn -/
def spPosn (K : PySem.W.Frag) : Sp := fun vs H Q _ => ∃ (p : Addr) (n m : Nat), vs = [.ref p, .int (m : Int)] ∧ PotAt H p n ∧ n < 900000 ∧ 1 ≤ m ∧ m ≤ 1000 ∧
  ∀ v H' pi, But p H H' → PotAt H' p (n + m + 1) → pi.Perm (List.range m) → Fz K H' (tN pi) v → Q v H'
end
def Mk (F : List (List Nat)) : Prop := ∀ r ∈ F, ∀ x ∈ r, x ≤ 2
theorem mk_set {F : List (List Nat)} (h : Mk F) {a b x : Nat} {r : List Nat} (hr : F[a]? = some r) (hx : x ≤ 2) : Mk (F.set a (r.set b x)) := fun s hs y hy => by
  rcases List.mem_or_eq_of_mem_set hs with z | z
  · exact h s z y hy
  · subst z
    rcases List.mem_or_eq_of_mem_set hy with z | z
    · exact h r (List.mem_of_getElem? hr) y z
    · exact z ▸ hx
theorem mk_zero {k : Nat} : Mk (List.replicate k (List.replicate k 0)) := fun r hr x hx => by
  rw [List.eq_of_mem_replicate hr] at hx
  rw [List.eq_of_mem_replicate hx]
  exact Nat.zero_le _
theorem rN_zero {m : Nat} : rN (List.replicate m (List.replicate m 0)) = List.replicate m (List.replicate m (.int 0)) := by
  unfold rN rNs
  rw [List.map_replicate, List.map_replicate]
  rfl
theorem rNs_len (r : List Nat) : (rNs r).length = r.length := by
  unfold rNs
  rw [List.length_map]
/-- tuple([tuple(row) for row in rows]) -/
theorem ed_tupRows {K : PySem.W.Frag} {σ : L2.St} {H : Hp} {tl : TE} {j : Nat} {vs : List Nat} {p : Addr} {ps : List Addr} {F : List (List Nat)} (h : Ev tl σ H (.ref p)) (R : RowsP K H p ps (rN F)) (hF : F.length ≤ 1000) (hw : ∀ x, wipe ((wipe σ vs).set j (some x)) vs = wipe σ vs)
    (hv : ∀ q : V, ((wipe σ vs).set j (some q))[j]? = some (some q)) : Ed K (tCB (rTupOf K) (tCons (tLc (iList K tl) (gName j) tYes (tCB (rTupOf K) (tCons (tVar j) tNil)) vs) tNil)) σ H (tNN F) := by
  rw [tNN_rN]
  have hFl : (rN F).length = F.length := by
    unfold rN
    rw [List.length_map]
  refine ed_tupOf (el_is (el_lcRows (out := fun i => ((rN F).map PyData.tuple).take i) h R rfl (fun i hi => ?_) hw fun i q2 xs r H4 e4 hr hx hf => ⟨.tuple r, ed_tupOfL (ev_var (hv _)) (sq_of hx) hf, take_get (by rw [List.getElem?_map, hr]; rfl)⟩) (by rw [List.take_of_length_le (by rw [List.length_map]; exact Nat.le_refl _)]))
  rw [List.length_take]
  omega
/-- a picture drawn -/
def spPic (K : PySem.W.Frag) : Sp := fun vs H Q _ => ∃ (p : Addr) (n m : Nat), vs = [.ref p, .int (m : Int)] ∧ PotAt H p n ∧ n < 900000 ∧ 1 ≤ m ∧ m ≤ 5 ∧
  ∀ v H' k M, But p H H' → PotAt H' p (n + 60) → Pic k M → Fz K H' (tNN M) v → Q v H'
section
variable {P : Program} {w : World} {K : PySem.W.Frag} {mg : Str → Option Value} {base : Heap}
/-- a picture near one: a mark turned or two rows swapped -/
def spNear (K : PySem.W.Frag) : Sp := fun vs H Q _ => ∃ (p : Addr) (n k : Nat) (y : V) (M : List (List Nat)), vs = [.ref p, y] ∧ PotAt H p n ∧ n < 900000 ∧ Pic k M ∧ Fz K H (tNN M) y ∧
  ∀ v H' M', But p H H' → PotAt H' p (n + 3) → Pic k M' → Fz K H' (tNN M') v → Q v H'
end
section
variable {K : PySem.W.Frag} {σ : L2.St} {H : Hp} {ta tb tc te : TE}
theorem rNs_get {r : List Nat} {j x : Nat} (h : r[j]? = some x) : (rNs r)[j]? = some (.int (x : Int)) := by
  unfold rNs
  rw [List.getElem?_map, h]
  rfl
theorem ed_at2 {k i j : Nat} {M : List (List Nat)} (hM : Sq k M) (h : Ed K ta σ H (tNN M)) (hi : Ev tb σ H (.int (i : Int))) (hj : Ev tc σ H (.int (j : Int))) (hik : i < k) (hjk : j < k) : Ed K (tOp (rIxT K) (tOp (rIxT K) ta tb) tc) σ H (.int ((at2 M i j : Nat) : Int)) := by
  obtain ⟨r, hr, hrl, _⟩ := hM.get hik
  exact ed_ixT (ed_ixT h hi (show (M.map tN)[i]? = some (tN r) by rw [List.getElem?_map, hr]; rfl)) hj (rNs_get (hM.at hr hjk))
theorem ev_ltN {a b : List Nat} (h : Ed K ta σ H (tN a)) (k : Ed K tb σ H (tN b)) : Ev (tOp (rLtT K) ta tb) σ H (.bl (ltN a b)) := by
  have e : ∀ c : List Nat, tN c = .tuple ((c.map fun n : Nat => (n : Int)).map PyData.int) := fun c => by
    unfold tN
    rw [List.map_map]
    rfl
  rw [e] at h k
  exact ev_ltT h k
end
def rMarks (as : List Ag) (d : PyData) : Prop := ∃ (k p : Nat) (M : List (List Nat)) (o : List Nat), as = [.d (tNN M), .d (tN o), .v (.int (p : Int))] ∧ Sq k M ∧ k ≤ 5 ∧ (∀ x ∈ o, x < k) ∧ p < k ∧ o.length ≤ 5 ∧ d = tN (tells M o p)
/-- (code, orders) -/
def spOrders (K : PySem.W.Frag) : Sp := fun vs H Q _ => ∃ (k : Nat) (M : List (List Nat)) (y : V), vs = [y] ∧ Sq k M ∧ k ≤ 5 ∧ Fz K H (tNN M) y ∧
  ∀ t vc po xs H', Ex H H' → H' t = some (.tup [vc, .ref po]) → Fz K H' (tN (laps k M k).1) vc → H' po = some (.lst xs) → FzL K H' ((laps k M k).2.map tN) xs → Q (.ref t) H'
section
variable {P : Program} {w : World} {K : PySem.W.Frag} {mg : Str → Option Value} {base : Heap}
def bD : Option (List Nat) → PyData
  | none => .none
  | some b => tN b
theorem bD_plain (o : Option (List Nat)) : Plain (bD o) := by
  cases o with
  | none => exact ⟨rfl, by simp only [bD, PyData.depth]; omega⟩
  | some b => exact Plain.of (tN_plain b)
theorem eqv_bD (t : List Nat) (o : Option (List Nat)) : PyData.eqv (tN t) (bD o) = decide (some t = o) := by
  have h := eqv_iff (tN t) (bD o) (tN_plain t).1 (bD_plain o).1
  rw [Bool.eq_iff_iff, h, decide_eq_true_eq]
  cases o with
  | none => exact ⟨fun z => by simp [tN, bD] at z, fun z => nomatch z⟩
  | some b => exact ⟨fun z => by rw [tN_inj z], fun z => by rw [Option.some.inj z]; rfl⟩
theorem fz_bD {K : PySem.W.Frag} {H : Hp} {o : Option (List Nat)} {v : V} (h : Fz K H (bD o) v) : decide (v = .non) = o.isNone := by
  cases o with
  | none => exact decide_eq_true (fz_nonI h)
  | some b =>
    obtain ⟨a, e, _⟩ := fz_tN.mp h
    exact decide_eq_false fun z => by rw [z] at e; cases e
end
def rPosBy (as : List Ag) (d : PyData) : Prop := ∃ (k : Nat) (o : List Nat), as = [.d (tN o)] ∧ k ≤ 5 ∧ o.Perm (List.range k) ∧ d = tN (invN k o)
def leastPic (k : Nat) (M : List (List Nat)) : List (List Nat) := movedN k M (leastPos k M)
def rLeast (as : List Ag) (d : PyData) : Prop := ∃ (k : Nat) (M : List (List Nat)), as = [.d (tNN M)] ∧ Pic k M ∧ d = .tuple [tNN (leastPic k M), tN (leastPos k M)]
def samePos (k : Nat) (M N : List (List Nat)) : List Nat := zipPos k ((laps k M k).2.headD []) ((laps k N k).2.headD [])
def sameD (k : Nat) (M N : List (List Nat)) : PyData := if (laps k M k).1 = (laps k N k).1 then .tuple [.str "position", tN (samePos k M N)] else .tuple [.str "least", tNN (leastPic k M), tNN (leastPic k N)]
def rSame (as : List Ag) (d : PyData) : Prop := ∃ (k : Nat) (M N : List (List Nat)), as = [.d (tNN M), .d (tNN N)] ∧ Pic k M ∧ Pic k N ∧ d = sameD k M N
def rShows (as : List Ag) (d : PyData) : Prop := ∃ (k : Nat) (M N : List (List Nat)) (v : PyData), as = [.d (tNN M), .d (tNN N), .d v] ∧ Pic k M ∧ Pic k N ∧
  ((∃ q : List Nat, v = .tuple [.str "position", tN q] ∧ q.Perm (List.range k) ∧ movedN k M q = N) ∨ (v = .tuple [.str "least", tNN (leastPic k M), tNN (leastPic k N)] ∧ leastPic k M ≠ leastPic k N)) ∧ d = .bool true
theorem least_pic {k : Nat} {M : List (List Nat)} (h : Pic k M) : Pic k (leastPic k M) := ⟨h.pos, h.le, moved_sq.len, moved_sq.row, moved_pic h.mark⟩
theorem alike_ints : ∀ a b : List Nat, PySem.W.alikeAll (a.map fun n : Nat => PyData.int (n : Int)) (b.map fun n : Nat => PyData.int (n : Int)) = true
  | [], _ => by simp [PySem.W.alikeAll]
  | _ :: _, [] => by simp [PySem.W.alikeAll]
  | x :: a, y :: b => by
    rw [List.map_cons, List.map_cons, PySem.W.alikeAll, alike_ints a b]
    simp [PySem.W.alike]
theorem alike_tN (a b : List Nat) : PySem.W.alike (tN a) (tN b) = true := by
  unfold tN
  rw [PySem.W.alike]
  exact alike_ints a b
theorem orders_take {k : Nat} {M : List (List Nat)} : ∃ o os, (laps k M k).2 = o :: os ∧ ((laps k M k).2.headD [] = o) ∧ Ord k k o ∧ Coded M o (laps k M k).1 := by
  obtain ⟨l1, l2⟩ := laps_ok k M k (Nat.le_refl _)
  cases h : (laps k M k).2 with
  | nil => exact absurd h l1
  | cons o os => exact ⟨o, os, rfl, rfl, l2 o (by rw [h]; exact List.mem_cons_self)⟩
/-! ### how long repr is -/
theorem int_short {n : Nat} (h : n ≤ 9) : PyData.intsShort 13 (.int (n : Int)) = true := by
  simp only [PyData.intsShort]
  exact decide_eq_true (PyData.shown_int_le (i := (n : Int)) (by omega))
theorem int_weight {n : Nat} (h : n ≤ 9) : PyData.weight (.int (n : Int)) ≤ 4 := by
  simp only [PyData.weight]
  split
  · exact Nat.zero_le _
  · rename_i z
    have : ((n : Int).natAbs).log2 < 4 := by
      have hn : n ≠ 0 := fun y => z (by subst y; rfl)
      rw [show (n : Int).natAbs = n from rfl, Nat.log2_lt hn]
      omega
    omega
theorem row_small : ∀ {r : List Nat}, (∀ x ∈ r, x ≤ 9) → PyData.intsShortAll 13 (rNs r) = true ∧ PyData.weightAll (rNs r) ≤ 5 * r.length ∧ PyData.showableAll (rNs r) = true
  | [], _ => ⟨rfl, Nat.le_refl _, rfl⟩
  | n :: r, h => by
    obtain ⟨h1, h2, h3⟩ := row_small (r := r) fun x hx => h x (List.mem_cons_of_mem _ hx)
    have hn := h n List.mem_cons_self
    have h4 := int_weight hn
    have e : rNs (n :: r) = .int (n : Int) :: rNs r := rfl
    rw [e]
    simp only [PyData.intsShortAll, PyData.weightAll, PyData.showableAll, int_short hn, h1, h3, List.length_cons, PyData.showable, Bool.and_true, Bool.true_and, decide_eq_true_eq, true_and]
    refine ⟨by omega, ?_⟩
    by_cases z : n = 0
    · subst z
      decide
    · have : ((n : Int).natAbs).log2 < 4 := by
        rw [show (n : Int).natAbs = n from rfl, Nat.log2_lt z]
        omega
      omega
theorem tN_e (r : List Nat) : tN r = .tuple (rNs r) := rfl
theorem rows_small : ∀ {F : List (List Nat)} {k : Nat}, (∀ r ∈ F, r.length = k ∧ ∀ x ∈ r, x ≤ 9) → PyData.intsShortAll 13 (F.map tN) = true ∧ PyData.weightAll (F.map tN) ≤ (5 * k + 1) * F.length ∧ PyData.showableAll (F.map tN) = true
  | [], _, _ => ⟨rfl, Nat.le_refl _, rfl⟩
  | r :: F, k, h => by
    obtain ⟨h1, h2, h3⟩ := rows_small (F := F) (k := k) fun x hx => h x (List.mem_cons_of_mem _ hx)
    obtain ⟨hl, hx⟩ := h r List.mem_cons_self
    obtain ⟨r1, r2, r3⟩ := row_small hx
    rw [List.map_cons, tN_e]
    simp only [PyData.intsShortAll, PyData.weightAll, PyData.showableAll, PyData.intsShort, PyData.weight, PyData.showable, r1, r3, h1, h3, List.length_cons, Bool.and_true, true_and, and_true]
    rw [Nat.mul_succ]
    rw [hl] at r2
    omega
theorem pic_small {k : Nat} {M : List (List Nat)} (h : Pic k M) : PyData.intsShort 13 (tNN M) = true ∧ PyData.weight (tNN M) ≤ 130 ∧ PyData.showable (tNN M) = true := by
  obtain ⟨h1, h2, h3⟩ := rows_small (F := M) (k := k) fun r hr => ⟨h.row r hr, fun x hx => Nat.le_trans (h.mark r hr x hx) (by decide)⟩
  unfold tNN
  simp only [PyData.intsShort, PyData.weight, PyData.showable]
  refine ⟨h1, ?_, h3⟩
  rw [h.len] at h2
  have hk := h.le
  have : (5 * k + 1) * k ≤ (5 * 5 + 1) * 5 := Nat.mul_le_mul (by omega) hk
  omega
theorem told_shown {k : Nat} {A B : List (List Nat)} (hA : Pic k A) (hB : Pic k B) : (PyData.tuple [.str "least", tNN A, tNN B]).showable = true ∧ (PyData.tuple [.str "least", tNN A, tNN B]).depth ≤ 50 ∧ (PyData.tuple [.str "least", tNN A, tNN B]).shown.length ≤ sizeLine := by
  obtain ⟨a1, a2, a3⟩ := pic_small hA
  obtain ⟨b1, b2, b3⟩ := pic_small hB
  have hd : (PyData.tuple [.str "least", tNN A, tNN B]).depth ≤ 3 := by
    have ha := (tNN_plain A).2
    have hb := (tNN_plain B).2
    simp only [PyData.depth, PyData.depthAll]
    omega
  refine ⟨by simp only [PyData.showable, PyData.showableAll, a3, b3, Bool.and_true], by omega, ?_⟩
  refine PyData.shown_fits_of_layable0 (B := 13) (by decide) (by decide) ?_ ?_
  · unfold PyData.layable0
    rw [decide_eq_true (show PyData.depth _ ≤ 64 by omega)]
    have hw : PyData.weight (.tuple [.str "least", tNN A, tNN B]) ≤ 2 ^ 20 := by
      simp only [PyData.weight, PyData.weightAll]
      have : ("least" : Str).cps.size = 5 := by decide
      omega
    rw [decide_eq_true hw]
    have hp := plain_lay (.tuple [.str "least", tNN A, tNN B]) (by simp only [plain, plainL, (tNN_plain A).1, (tNN_plain B).1]; decide +kernel)
    rw [hp]
    rfl
  · simp only [PyData.intsShort, PyData.intsShortAll, a1, b1, Bool.and_true]
/-! ### all orders -/
def everyN (k : Nat) : Nat → List (List Nat)
  | 0 => [[]]
  | t + 1 => (everyN k t).flatMap fun o => (rest k o).map fun x => o ++ [x]
theorem mem_every {k : Nat} : ∀ {t : Nat} {o : List Nat}, o ∈ everyN k t ↔ Ord k t o
  | 0, o => by
    unfold everyN
    rw [List.mem_singleton]
    exact ⟨fun h => by rw [h]; exact ⟨rfl, List.nodup_nil, fun x hx => by cases hx⟩, fun h => List.eq_nil_of_length_eq_zero h.len⟩
  | t + 1, o => by
    unfold everyN
    rw [List.mem_flatMap]
    constructor
    · rintro ⟨o1, ho1, h⟩
      obtain ⟨x, hx, rfl⟩ := List.mem_map.mp h
      obtain ⟨hxk, hxo⟩ := mem_rest.mp hx
      have O := mem_every.mp ho1
      refine ⟨by simp [O.len], ?_, fun y hy => ?_⟩
      · rw [List.nodup_append]
        exact ⟨O.nd, by simp, fun a ha b hb => by rw [List.mem_singleton.mp hb]; exact fun z => hxo (z ▸ ha)⟩
      · rcases List.mem_append.mp hy with z | z
        · exact O.lt y z
        · rw [List.mem_singleton.mp z]
          exact hxk
    · intro O
      have hne : o ≠ [] := fun z => by
        have := O.len
        rw [z] at this
        simp at this
      have e := List.dropLast_concat_getLast hne
      have nd := O.nd
      rw [← e, List.nodup_append] at nd
      refine ⟨o.dropLast, mem_every.mpr ⟨by rw [List.length_dropLast, O.len]; rfl, nd.1, fun y hy => O.lt y ((List.dropLast_prefix o).subset hy)⟩, List.mem_map.mpr ⟨o.getLast hne, mem_rest.mpr ⟨O.lt _ (List.getLast_mem hne), fun z => nd.2.2 _ z _ (List.mem_singleton.mpr rfl) rfl⟩, e⟩⟩
theorem every_len {k : Nat} (hk : k ≤ 5) : ∀ t, (everyN k t).length ≤ 5 ^ t
  | 0 => Nat.le_refl _
  | t + 1 => by
    have h1 := every_len hk t
    have h2 : (everyN k (t + 1)).length ≤ (everyN k t).length * 5 := by
      show ((everyN k t).flatMap fun o => (rest k o).map fun x => o ++ [x]).length ≤ _
      refine snoc_ind (P := fun os : List (List Nat) => (os.flatMap fun o => (rest k o).map fun x => o ++ [x]).length ≤ os.length * 5) (Nat.le_refl _) (fun os o ih => ?_) (everyN k t)
      rw [List.flatMap_append, List.length_append, List.length_append]
      have h3 := rest_len k o
      simp at ih ⊢
      omega
    rw [Nat.pow_succ]
    omega
def rBool2 (as : List Ag) (d : PyData) : Prop := ∃ a b : Bool, as = [.v (.bl a), .v (.bl b)] ∧ d = .bool (decide (V.bl a = V.bl b))
/-- a new list of all orders -/
def spEvery (K : PySem.W.Frag) : Sp := fun vs H Q _ => ∃ m : Nat, vs = [.int (m : Int)] ∧ m ≤ 5 ∧ ∀ p xs H', H p = none → Ex H H' → H' p = some (.lst xs) → FzL K H' ((everyN m m).map tN) xs → Q (.ref p) H'
def rIsRight (as : List Ag) (d : PyData) : Prop := ∃ (k j : Nat) (M N : List (List Nat)), as = [.d (tNN M), .d (tNN N)] ∧ Pic k M ∧ Pic j N ∧ d = .bool true
def spRight (K : PySem.W.Frag) : Sp := fun vs H Q _ => ∃ p : Addr, vs = [.ref p] ∧ PotAt H p 0 ∧ ∀ H', But p H H' → Q (.bl true) H'
def spCells (K : PySem.W.Frag) : Sp := fun vs H Q _ => ∃ (a : Addr) (xs : List V), vs = [.ref a, .int 3] ∧ SqL K H a xs ∧ xs.length ≤ 100 ∧ ∀ (n : Nat) p H', n ≤ 3 → H p = none → Ex H H' → H' p = some (.lst (vN (List.range n))) → Q (.ref p) H'
def spLaw (K : PySem.W.Frag) : Sp := fun vs H Q _ => ∃ (a : Addr) (ns : List Int), vs = [.ref a] ∧ SqL K H a (ns.map V.int) ∧ ns.length ≤ 63 ∧ ∀ H', Q (.bl true) H'
section
variable {P : Program} {w : World} {K : PySem.W.Frag} {mg : Str → Option Value} {base : Heap}
/-- keywords -/
def gK1 {α : Type} : List α → List α → List α
  | [a], [b] => [a, b]
  | _, _ => []
def gK2 {α : Type} : List α → List α → List α
  | [a, b], [c] => [a, b, c]
  | _, _ => []
theorem gK1_rel {vs zs : List V} {us ws : List Value} (h : Vals vs us) (k : Vals zs ws) : Vals (gK1 vs zs) (gK1 us ws) := by
  cases h with
  | nil => exact .nil
  | cons r h =>
    cases h with
    | nil =>
      cases k with
      | nil => exact .nil
      | cons r2 k =>
        cases k with
        | nil => exact .cons r (.cons r2 .nil)
        | cons _ _ => exact .nil
    | cons _ _ => exact .nil
theorem gK2_rel {vs zs : List V} {us ws : List Value} (h : Vals vs us) (k : Vals zs ws) : Vals (gK2 vs zs) (gK2 us ws) := by
  cases h with
  | nil => exact .nil
  | cons r h =>
    cases h with
    | nil => exact .nil
    | cons r1 h =>
      cases h with
      | nil =>
        cases k with
        | nil => exact .nil
        | cons r2 k =>
          cases k with
          | nil => exact .cons r (.cons r1 (.cons r2 .nil))
          | cons _ _ => exact .nil
      | cons _ _ => exact .nil
theorem ed_callK1 {σ : L2.St} {H : Hp} {tr tk : TA} {sp : Sp} {E : XK} {a b : Ag} {d : PyData} (h : Ea K tr σ H [a]) (k : Ea K tk σ H [b]) (hs : Pr K sp [a, b] H d) : Ed K (tCallK sp gK1 E tr tk) σ H d := fun H1 e Q q =>
  h H1 e _ fun vs H2 e2 hv => k H2 (e.trans e2) _ fun zs H3 e3 hz => by
    obtain ⟨x, rfl, hx⟩ := agl1 hv
    obtain ⟨y, rfl, hy⟩ := agl1 hz
    exact hs H3 ((e.trans e2).trans e3) [x, y] ⟨x, [y], rfl, ago_ex e3 hx, y, [], rfl, hy, rfl⟩ Q (fun v H4 e4 f => q v H4 ((e2.trans e3).trans e4) f) E
theorem ed_callK2 {σ : L2.St} {H : Hp} {tr tk : TA} {sp : Sp} {E : XK} {a b c : Ag} {d : PyData} (h : Ea K tr σ H [a, b]) (k : Ea K tk σ H [c]) (hs : Pr K sp [a, b, c] H d) : Ed K (tCallK sp gK2 E tr tk) σ H d := fun H1 e Q q =>
  h H1 e _ fun vs H2 e2 hv => k H2 (e.trans e2) _ fun zs H3 e3 hz => by
    obtain ⟨x, y, rfl, hx, hy⟩ := agl2 hv
    obtain ⟨z, rfl, hz2⟩ := agl1 hz
    exact hs H3 ((e.trans e2).trans e3) [x, y, z] ⟨x, [y, z], rfl, ago_ex e3 hx, y, [z], rfl, ago_ex e3 hy, z, [], rfl, hz2, rfl⟩ Q (fun v H4 e4 f => q v H4 ((e2.trans e3).trans e4) f) E
theorem ev_neNil {σ : L2.St} {H : Hp} {ta : TE} {p : Addr} {xs : List V} {ds : List PyData} {n : Nat} (h : Ev ta σ H (.ref p)) (hp : SqL K H p xs) (f : FzL K H ds xs) (ps : ∀ d ∈ ds, plain d = true ∧ d.depth ≤ n) (hn : n ≤ 60) : Ev (tOp (rNeD K) ta (tLst tNil)) σ H (.bl (!ds.isEmpty)) := fun H1 e Q q =>
  h H1 e _ fun H2 e2 => Evl.el_lst Evl.ea_nil (by decide) H2 (Ex.refl _) _ fun l H3 hl e3 h3 => ⟨.list ds, .list [], fzl_dpl (ex_l ((e.trans e2).trans e3) hp) (fzl_ex ((e.trans e2).trans e3) f), fzl_dpl (ds := []) (sq_of h3) fzl_nil, shaped_list ps hn, shaped_list (n := 0) (fun d hd => by cases hd) (by decide), by
    have hq := q H3 (e2.trans e3)
    cases ds with
    | nil => simpa [PyData.eqv, PyData.eqvAll] using hq
    | cons d ds => simpa [PyData.eqv, PyData.eqvAll] using hq⟩
def untN : PyData → List Nat
  | .tuple ds => ds.map gNat
  | _ => []
theorem untN_tN (q : List Nat) : untN (tN q) = q := gNat_tN q
/-- two pictures have one code when one is moved to the other, and only then -/
theorem code_iff {k : Nat} {M N : List (List Nat)} (hM : Pic k M) (hN : Pic k N) : (laps k M k).1 = (laps k N k).1 ↔ ∃ q, Ord k k q ∧ movedN k M q = N := by
  constructor
  · intro h
    obtain ⟨o, os, hos, hoh, O, Co⟩ := orders_take (k := k) (M := M)
    obtain ⟨o', os', hos', hoh', O', Co'⟩ := orders_take (k := k) (M := N)
    have hz := zip_perm (ord_perm O) (ord_perm O')
    refine ⟨zipPos k o o', ⟨perm_len hz, perm_nd hz, fun x hx => List.mem_range.mp (hz.subset hx)⟩, zip_moves hN.sq O O' Co (h ▸ Co')⟩
  · rintro ⟨q, hq, rfl⟩
    exact (laps_moved (ord_perm hq) k (Nat.le_refl _)).1.symm
theorem samePos_ok {k : Nat} {M N : List (List Nat)} (hN : Pic k N) (h : (laps k M k).1 = (laps k N k).1) : (samePos k M N).Perm (List.range k) ∧ movedN k M (samePos k M N) = N := by
  obtain ⟨o, os, hos, hoh, O, Co⟩ := orders_take (k := k) (M := M)
  obtain ⟨o', os', hos', hoh', O', Co'⟩ := orders_take (k := k) (M := N)
  unfold samePos
  rw [hoh, hoh']
  exact ⟨zip_perm (ord_perm O) (ord_perm O'), zip_moves hN.sq O O' Co (h ▸ Co')⟩
theorem least_ne {k : Nat} {M N : List (List Nat)} (hM : Pic k M) (hN : Pic k N) (h : ¬ (laps k M k).1 = (laps k N k).1) : leastPic k M ≠ leastPic k N := fun e => by
  obtain ⟨r, hr, hm⟩ := moved_back hN.sq (least_ok k M).2 (least_ok k N).2 e
  exact h ((code_iff hM hN).mpr ⟨r, ⟨perm_len hr, perm_nd hr, fun x hx => List.mem_range.mp (hr.subset hx)⟩, hm⟩)
end
section
variable {P : Program} {w : World} {K : PySem.W.Frag} {mg : Str → Option Value} {base : Heap}
theorem c_cb1 {σ : L2.St} {H : Hp} {te : TE} {Q : VK} {r : List V → Hp → VK → Prop} (h : tCB r (tCons te tNil) σ H Q) : te σ H (fun x H1 => tNil σ H1 fun xs H2 => r (x :: xs) H2 Q) := h
theorem c_lst {σ : L2.St} {H : Hp} {ta : TA} {Q : VK} (h : ta σ H fun vs H1 => vs.length ≤ sizeLine ∧ ∀ p, H1 p = none → Q (.ref p) (upd H1 p (.lst vs))) : tLst ta σ H Q := h
end
end WT
/-! Positions as a group; chains of lanes: the plain law of sifting (Schreier). -/
namespace WT
/-! ### positions -/
abbrev IsP (n : Nat) (u : List Nat) : Prop := u.Perm (List.range n)
def ap (u : List Nat) (i : Nat) : Nat := u.getD i 0
theorem ap_get {u : List Nat} {i : Nat} (h : i < u.length) : u[i]? = some (ap u i) := by
  unfold ap
  rw [List.getD_eq_getElem?_getD, List.getElem?_eq_getElem h]
  rfl
theorem ap_of {u : List Nat} {i x : Nat} (h : u[i]? = some x) : ap u i = x := by
  unfold ap
  rw [List.getD_eq_getElem?_getD, h]
  rfl
theorem ext_ap {n : Nat} {u v : List Nat} (hu : u.length = n) (hv : v.length = n) (h : ∀ i, i < n → ap u i = ap v i) : u = v := by
  refine List.ext_getElem? fun i => ?_
  by_cases hi : i < n
  · rw [ap_get (by omega), ap_get (by omega), h i hi]
  · rw [List.getElem?_eq_none (by omega), List.getElem?_eq_none (by omega)]
def thn (u v : List Nat) : List Nat := u.map fun x => ap v x
theorem thn_len (u v : List Nat) : (thn u v).length = u.length := by
  unfold thn
  rw [List.length_map]
theorem ap_thn {u v : List Nat} {i : Nat} (h : i < u.length) : ap (thn u v) i = ap v (ap u i) := by
  refine ap_of ?_
  unfold thn
  rw [List.getElem?_map, ap_get h]
  rfl
theorem isP_len {n : Nat} {u : List Nat} (h : IsP n u) : u.length = n := perm_len h
theorem ap_lt {n : Nat} {u : List Nat} (h : IsP n u) {i : Nat} (hi : i < n) : ap u i < n := perm_lt h (ap_get (by rw [isP_len h]; exact hi))
theorem ap_inj {n : Nat} {u : List Nat} (h : IsP n u) {i j : Nat} (hi : i < n) (hj : j < n) (e : ap u i = ap u j) : i = j := by
  have hl := isP_len h
  have h1 := idx_of_get (perm_nd h) (ap_get (u := u) (i := i) (by omega))
  have h2 := idx_of_get (perm_nd h) (ap_get (u := u) (i := j) (by omega))
  rw [e, h2] at h1
  exact h1.symm
theorem isP_of {n : Nat} {u : List Nat} (hl : u.length = n) (h1 : ∀ i, i < n → ap u i < n) (h2 : ∀ i j, i < n → j < n → ap u i = ap u j → i = j) : IsP n u := by
  have e : u = (List.range n).map (ap u) := tab_of hl fun x hx => ap_get (by omega)
  rw [e]
  exact tab_perm h1 h2
theorem one_isP (n : Nat) : IsP n (List.range n) := List.Perm.refl _
theorem ap_one {n i : Nat} (h : i < n) : ap (List.range n) i = i := ap_of (List.getElem?_range h)
theorem thn_isP {n : Nat} {u v : List Nat} (hu : IsP n u) (hv : IsP n v) : IsP n (thn u v) := by
  have hl := isP_len hu
  refine isP_of (by rw [thn_len, hl]) (fun i hi => ?_) fun i j hi hj e => ?_
  · rw [ap_thn (by omega)]
    exact ap_lt hv (ap_lt hu hi)
  · rw [ap_thn (by omega), ap_thn (by omega)] at e
    exact ap_inj hu hi hj (ap_inj hv (ap_lt hu hi) (ap_lt hu hj) e)
theorem und_isP {n : Nat} {u : List Nat} (hu : IsP n u) : IsP n (invN n u) := inv_perm hu
theorem ap_und {n : Nat} {u : List Nat} {x : Nat} (hx : x < n) : ap (invN n u) x = u.idxOf x := ap_of (tab_get hx)
theorem und_ap {n : Nat} {u : List Nat} (hu : IsP n u) {i : Nat} (hi : i < n) : ap (invN n u) (ap u i) = i := by
  rw [ap_und (ap_lt hu hi)]
  exact idx_of_get (perm_nd hu) (ap_get (by rw [isP_len hu]; exact hi))
theorem ap_und_ap {n : Nat} {u : List Nat} (hu : IsP n u) {x : Nat} (hx : x < n) : ap u (ap (invN n u) x) = x := by
  rw [ap_und hx]
  exact ap_of (idx_lt hu hx).2
theorem thn_assoc {n : Nat} {u v w : List Nat} (hu : IsP n u) (hv : IsP n v) : thn (thn u v) w = thn u (thn v w) := by
  have hl := isP_len hu
  have hl2 := isP_len hv
  refine ext_ap (n := n) (by rw [thn_len, thn_len, hl]) (by rw [thn_len, hl]) fun i hi => ?_
  have := ap_lt hu hi
  rw [ap_thn (by rw [thn_len]; omega), ap_thn (by omega), ap_thn (by omega), ap_thn (by omega)]
theorem thn_one {n : Nat} {u : List Nat} (hu : IsP n u) : thn u (List.range n) = u := by
  have hl := isP_len hu
  refine ext_ap (n := n) (by rw [thn_len, hl]) hl fun i hi => ?_
  rw [ap_thn (by omega), ap_one (ap_lt hu hi)]
theorem one_thn {n : Nat} {u : List Nat} (hu : IsP n u) : thn (List.range n) u = u := by
  have hl := isP_len hu
  refine ext_ap (n := n) (by rw [thn_len, List.length_range]) hl fun i hi => ?_
  rw [ap_thn (by rw [List.length_range]; exact hi), ap_one hi]
theorem thn_und {n : Nat} {u : List Nat} (hu : IsP n u) : thn u (invN n u) = List.range n := by
  have hl := isP_len hu
  refine ext_ap (n := n) (by rw [thn_len, hl]) List.length_range fun i hi => ?_
  rw [ap_thn (by omega), und_ap hu hi, ap_one hi]
theorem und_thn {n : Nat} {u : List Nat} (hu : IsP n u) : thn (invN n u) u = List.range n := by
  have hl := isP_len (und_isP hu)
  refine ext_ap (n := n) (by rw [thn_len, hl]) List.length_range fun i hi => ?_
  rw [ap_thn (by omega), ap_und_ap hu hi, ap_one hi]
theorem und_mul {n : Nat} {u v : List Nat} (hu : IsP n u) (hv : IsP n v) : invN n (thn u v) = thn (invN n v) (invN n u) := by
  have hl := isP_len (und_isP hv)
  have hl2 := isP_len (und_isP (thn_isP hu hv))
  refine ext_ap (n := n) hl2 (by rw [thn_len, hl]) fun x hx => ?_
  rw [ap_thn (by omega)]
  have h1 := ap_lt (und_isP hv) hx
  have h2 := ap_lt (und_isP hu) h1
  have h3 : ap (thn u v) (ap (invN n u) (ap (invN n v) x)) = x := by
    rw [ap_thn (by rw [isP_len hu]; exact h2), ap_und_ap hu h1, ap_und_ap hv hx]
  have h4 := und_ap (thn_isP hu hv) h2
  rw [h3] at h4
  exact h4
theorem und_und {n : Nat} {u : List Nat} (hu : IsP n u) : invN n (invN n u) = u := by
  refine ext_ap (n := n) (isP_len (und_isP (und_isP hu))) (isP_len hu) fun x hx => ?_
  have h1 := und_ap (und_isP hu) (ap_lt hu hx)
  rw [und_ap hu hx] at h1
  exact h1
theorem und_one {n : Nat} : invN n (List.range n) = List.range n := by
  have := thn_und (one_isP n)
  rw [one_thn (und_isP (one_isP n))] at this
  exact this
/-- u then v' , where v' undoes v -/
theorem thn_und_cancel {n : Nat} {u v : List Nat} (hu : IsP n u) (hv : IsP n v) : thn (thn u (invN n v)) v = u := by
  rw [thn_assoc hu (und_isP hv), und_thn hv, thn_one hu]
theorem thn_cancel_und {n : Nat} {u v : List Nat} (hu : IsP n u) (hv : IsP n v) : thn (thn u v) (invN n v) = u := by
  rw [thn_assoc hu hv, thn_und hv, thn_one hu]
/-! ### what some come to -/
inductive Gen (n : Nat) (S : List Nat → Prop) : List Nat → Prop
  | one : Gen n S (List.range n)
  | mul {u s : List Nat} (h : Gen n S u) (hs : S s) : Gen n S (thn u s)
  | div {u s : List Nat} (h : Gen n S u) (hs : S s) : Gen n S (thn u (invN n s))
section
variable {n : Nat} {S T : List Nat → Prop}
theorem Gen.isP (hS : ∀ s, S s → IsP n s) {u : List Nat} (h : Gen n S u) : IsP n u := by
  induction h with
  | one => exact one_isP n
  | mul _ hs ih => exact thn_isP ih (hS _ hs)
  | div _ hs ih => exact thn_isP ih (und_isP (hS _ hs))
theorem Gen.of (hS : ∀ s, S s → IsP n s) {s : List Nat} (h : S s) : Gen n S s := by
  have := Gen.mul (n := n) (Gen.one) h
  rw [one_thn (hS _ h)] at this
  exact this
theorem Gen.thn (hS : ∀ s, S s → IsP n s) {u v : List Nat} (hu : Gen n S u) (hv : Gen n S v) : Gen n S (thn u v) := by
  have pu := hu.isP hS
  induction hv with
  | one =>
    rw [thn_one pu]
    exact hu
  | mul h hs ih =>
    rw [← thn_assoc pu (h.isP hS)]
    exact .mul ih hs
  | div h hs ih =>
    rw [← thn_assoc pu (h.isP hS)]
    exact .div ih hs
theorem Gen.und (hS : ∀ s, S s → IsP n s) {u : List Nat} (hu : Gen n S u) : Gen n S (invN n u) := by
  induction hu with
  | one =>
    rw [und_one]
    exact .one
  | mul h hs ih =>
    rw [und_mul (h.isP hS) (hS _ hs)]
    have h1 := Gen.div (n := n) (Gen.one) hs
    rw [one_thn (und_isP (hS _ hs))] at h1
    exact Gen.thn hS h1 ih
  | div h hs ih =>
    rw [und_mul (h.isP hS) (und_isP (hS _ hs)), und_und (hS _ hs)]
    exact Gen.thn hS (Gen.of hS hs) ih
theorem Gen.mono (hT : ∀ s, T s → IsP n s) (h : ∀ s, S s → Gen n T s) {u : List Nat} (hu : Gen n S u) : Gen n T u := by
  induction hu with
  | one => exact .one
  | mul _ hs ih => exact Gen.thn hT ih (h _ hs)
  | div _ hs ih => exact Gen.thn hT ih (Gen.und hT (h _ hs))
theorem Gen.sub (h : ∀ s, S s → T s) {u : List Nat} (hu : Gen n S u) : Gen n T u := by
  induction hu with
  | one => exact .one
  | mul _ hs ih => exact .mul ih (h _ hs)
  | div _ hs ih => exact .div ih (h _ hs)
/-! ### lanes -/
/-- all below p stay -/
def Fix (p : Nat) (u : List Nat) : Prop := ∀ i, i < p → ap u i = i
theorem fix_mono {p q : Nat} {u : List Nat} (h : Fix q u) (hpq : p ≤ q) : Fix p u := fun i hi => h i (by omega)
theorem fix_one {p : Nat} (hp : p ≤ n) : Fix p (List.range n) := fun i hi => ap_one (by omega)
theorem fix_thn {p : Nat} (hp : p ≤ n) {u v : List Nat} (pu : IsP n u) (hu : Fix p u) (hv : Fix p v) : Fix p (thn u v) := fun i hi => by
  rw [ap_thn (by rw [isP_len pu]; omega), hu i hi, hv i hi]
theorem fix_und {p : Nat} (hp : p ≤ n) {u : List Nat} (pu : IsP n u) (hu : Fix p u) : Fix p (invN n u) := fun i hi => by
  have h := und_ap pu (i := i) (by omega)
  rw [hu i hi] at h
  exact h
theorem fix_all {u : List Nat} (pu : IsP n u) (hu : Fix n u) : u = List.range n := ext_ap (isP_len pu) List.length_range fun i hi => by rw [hu i hi, ap_one hi]
theorem gen_fix {p : Nat} (hp : p ≤ n) (hS : ∀ s, S s → IsP n s) (hF : ∀ s, S s → Fix p s) {u : List Nat} (hu : Gen n S u) : Fix p u := by
  induction hu with
  | one => exact fix_one hp
  | mul h hs ih => exact fix_thn hp (h.isP hS) ih (hF _ hs)
  | div h hs ih => exact fix_thn hp (h.isP hS) ih (fix_und hp (hS _ hs) (hF _ hs))
abbrev LaneT := List (Nat × List Nat)
def look (L : LaneT) (x : Nat) : Option (List Nat) := (L.find? fun e => decide (e.1 = x)).map (·.2)
theorem look_mem {L : LaneT} {x : Nat} {u : List Nat} (h : look L x = some u) : (x, u) ∈ L := by
  unfold look at h
  cases z : L.find? fun e => decide (e.1 = x) with
  | none => rw [z] at h; cases h
  | some e =>
    rw [z] at h
    have h1 := List.find?_some z
    have h2 := List.mem_of_find?_eq_some z
    have h3 : e.2 = u := Option.some.inj h
    have h4 : e.1 = x := of_decide_eq_true h1
    rw [← h3, ← h4]
    exact h2
theorem look_none {L : LaneT} {x : Nat} : look L x = none ↔ ∀ u, (x, u) ∉ L := by
  unfold look
  rw [Option.map_eq_none_iff, List.find?_eq_none]
  constructor
  · intro h u hu
    exact h _ hu (decide_eq_true rfl)
  · rintro h ⟨y, u⟩ he z
    have : y = x := of_decide_eq_true z
    subst this
    exact h u he
theorem look_of {L : LaneT} (nd : (L.map (·.1)).Nodup) {x : Nat} {u : List Nat} (h : (x, u) ∈ L) : look L x = some u := by
  cases z : look L x with
  | none => exact absurd h (look_none.mp z u)
  | some v =>
    have h2 := look_mem z
    have : u = v := by
      obtain ⟨i, hi⟩ := List.getElem?_of_mem h
      obtain ⟨j, hj⟩ := List.getElem?_of_mem h2
      have e1 : (L.map (·.1))[i]? = some x := by rw [List.getElem?_map, hi]; rfl
      have e2 : (L.map (·.1))[j]? = some x := by rw [List.getElem?_map, hj]; rfl
      have hij : i = j := (List.getElem?_inj (List.getElem?_eq_some_iff.mp e1).1 nd).mp (by rw [e1, e2])
      subst hij
      rw [hi] at hj
      exact (Prod.mk.inj (Option.some.inj hj)).2
    rw [this]
/-- the strong ones from p on -/
def Sp' (strong : List (List Nat)) (p : Nat) (s : List Nat) : Prop := s ∈ strong ∧ Fix p s
structure LaneOk (n p : Nat) (strong : List (List Nat)) (L : LaneT) : Prop where
  base : (p, List.range n) ∈ L
  nd : (L.map (·.1)).Nodup
  el : ∀ x u, (x, u) ∈ L → IsP n u ∧ Fix p u ∧ ap u p = x ∧ Gen n (Sp' strong p) u
def Closed (p : Nat) (strong : List (List Nat)) (L : LaneT) : Prop := ∀ x u, (x, u) ∈ L → ∀ s, Sp' strong p s → ∃ v, (ap s x, v) ∈ L
end
end WT
/-! Chains of lanes: what a full chain knows. -/
namespace WT
theorem subset_len {α : Type} [DecidableEq α] : ∀ {l m : List α}, l.Nodup → (∀ x ∈ l, x ∈ m) → m.length ≤ l.length → ∀ x ∈ m, x ∈ l
  | [], [], _, _, _ => fun x hx => hx
  | [], y :: m, _, _, h => by simp at h
  | x :: l, m, nd, hs, hl => by
    have hx := hs x List.mem_cons_self
    have h1 := subset_len (l := l) (m := m.erase x) (List.nodup_cons.mp nd).2 (fun y hy => by
      have hne : y ≠ x := fun z => (List.nodup_cons.mp nd).1 (z ▸ hy)
      exact (List.mem_erase_of_ne hne).mpr (hs y (List.mem_cons_of_mem _ hy))) (by
      rw [List.length_erase_of_mem hx]
      rw [List.length_cons] at hl
      omega)
    intro y hy
    by_cases e : y = x
    · exact e ▸ List.mem_cons_self
    · exact List.mem_cons_of_mem _ (h1 y ((List.mem_erase_of_ne e).mpr hy))
section
variable {n p : Nat} {strong : List (List Nat)} {L : LaneT}
theorem spr_isP (h : ∀ s ∈ strong, IsP n s) {p : Nat} : ∀ s, Sp' strong p s → IsP n s := fun s hs => h s hs.1
theorem spr_le {p q : Nat} (h : p ≤ q) {s : List Nat} (hs : Sp' strong q s) : Sp' strong p s := ⟨hs.1, fix_mono hs.2 h⟩
theorem LaneOk.key_lt (h : LaneOk n p strong L) (hp : p < n) {x : Nat} {u : List Nat} (hx : (x, u) ∈ L) : x < n := by
  obtain ⟨h1, _, h3, _⟩ := h.el x u hx
  rw [← h3]
  exact ap_lt h1 hp
/-- a lane that is closed is closed backwards -/
theorem Closed.back (hP : ∀ s ∈ strong, IsP n s) (hp : p < n) (h : LaneOk n p strong L) (c : Closed p strong L) {x : Nat} {u : List Nat} (hx : (x, u) ∈ L) {s : List Nat} (hs : Sp' strong p s) : ∃ y v, (y, v) ∈ L ∧ ap s y = x := by
  have ps := hP s hs.1
  have h1 : ((L.map (·.1)).map (ap s)).Nodup := by
    refine List.pairwise_iff_getElem.mpr fun i j hi hj hij e => ?_
    rw [List.length_map] at hi hj
    simp only [List.getElem_map] at e
    have ki : ∀ a (ha : a < L.length), (L[a]).1 < n := fun a ha => h.key_lt hp (x := (L[a]).1) (u := (L[a]).2) (List.getElem_mem ha)
    rw [List.length_map] at hi hj
    have e2 := ap_inj ps (ki i hi) (ki j hj) e
    have nd := List.pairwise_iff_getElem.mp h.nd i j (by rw [List.length_map]; exact hi) (by rw [List.length_map]; exact hj) hij
    simp only [List.getElem_map] at nd
    exact nd e2
  have h2 : ∀ y ∈ (L.map (·.1)).map (ap s), y ∈ L.map (·.1) := fun y hy => by
    obtain ⟨z, hz, rfl⟩ := List.mem_map.mp hy
    obtain ⟨⟨z', v⟩, hv, rfl⟩ := List.mem_map.mp hz
    obtain ⟨w, hw⟩ := c z' v hv s hs
    exact List.mem_map.mpr ⟨_, hw, rfl⟩
  have h3 := subset_len h1 h2 (by rw [List.length_map, List.length_map, List.length_map]; exact Nat.le_refl _) x (List.mem_map.mpr ⟨_, hx, rfl⟩)
  obtain ⟨z, hz, e⟩ := List.mem_map.mp h3
  obtain ⟨⟨z', v⟩, hv, rfl⟩ := List.mem_map.mp hz
  exact ⟨z', v, hv, e⟩
/-- all that a lane's generators tell lies in the next -/
def Schreier (n p : Nat) (strong : List (List Nat)) (L : LaneT) : Prop := ∀ x u s v, (x, u) ∈ L → Sp' strong p s → (ap s x, v) ∈ L → Gen n (Sp' strong (p + 1)) (thn (thn u s) (invN n v))
/-- Schreier: what some come to splits into a lane and what keeps its place -/
theorem split_gen (hP : ∀ s ∈ strong, IsP n s) (hp : p < n) (h : LaneOk n p strong L) (c : Closed p strong L) (sc : Schreier n p strong L) {g : List Nat} (hg : Gen n (Sp' strong p) g) : ∃ u, (ap g p, u) ∈ L ∧ Gen n (Sp' strong (p + 1)) (thn g (invN n u)) := by
  induction hg with
  | one =>
    refine ⟨List.range n, by rw [ap_one hp]; exact h.base, ?_⟩
    rw [thn_und (one_isP n)]
    exact .one
  | mul hg hs ih =>
    rename_i g s
    obtain ⟨u, hu, hh⟩ := ih
    have pg := hg.isP (spr_isP hP)
    have ps := hP s hs.1
    obtain ⟨pu, _, _, _⟩ := h.el _ _ hu
    obtain ⟨v, hv⟩ := c _ _ hu s hs
    obtain ⟨pv, _, _, _⟩ := h.el _ _ hv
    refine ⟨v, by rw [ap_thn (by rw [isP_len pg]; exact hp)]; exact hv, ?_⟩
    have e : thn (thn g s) (invN n v) = thn (thn g (invN n u)) (thn (thn u s) (invN n v)) := by
      have pgu := thn_isP pg (und_isP pu)
      rw [← thn_assoc pgu (thn_isP pu ps), ← thn_assoc pgu pu, thn_und_cancel pg pu]
    rw [e]
    exact Gen.thn (spr_isP hP) hh (sc _ _ _ _ hu hs hv)
  | div hg hs ih =>
    rename_i g s
    obtain ⟨u, hu, hh⟩ := ih
    have pg := hg.isP (spr_isP hP)
    have ps := hP s hs.1
    obtain ⟨pu, _, _, _⟩ := h.el _ _ hu
    obtain ⟨y, v, hv, hy⟩ := Closed.back hP hp h c hu hs
    obtain ⟨pv, _, _, _⟩ := h.el _ _ hv
    have hyn := h.key_lt hp hv
    have ey : ap (invN n s) (ap g p) = y := by
      rw [← hy]
      exact und_ap ps hyn
    refine ⟨v, by rw [ap_thn (by rw [isP_len pg]; exact hp), ey]; exact hv, ?_⟩
    have hs1 := sc y v s u hv hs (hy ▸ hu)
    have hs2 := Gen.und (spr_isP hP) hs1
    rw [und_mul (thn_isP pv ps) (und_isP pu), und_und pu, und_mul pv ps] at hs2
    have e : thn (thn g (invN n s)) (invN n v) = thn (thn g (invN n u)) (thn u (thn (invN n s) (invN n v))) := by
      have pgu := thn_isP pg (und_isP pu)
      rw [← thn_assoc pgu pu, thn_und_cancel pg pu, thn_assoc pg (und_isP ps)]
    rw [e]
    exact Gen.thn (spr_isP hP) hh hs2
end
/-! ### the chain -/
structure Ch where
  lanes : List LaneT
  strong : List (List Nat)
  known : List (List (Nat × Nat))
def Ch.lane (c : Ch) (p : Nat) : LaneT := c.lanes.getD p []
def Ch.kn (c : Ch) (p : Nat) : List (Nat × Nat) := c.known.getD p []
structure ChOk (n : Nat) (c : Ch) : Prop where
  nl : c.lanes.length = n
  nk : c.known.length = n
  st : ∀ s ∈ c.strong, IsP n s ∧ s ≠ List.range n
  ok : ∀ p, p < n → LaneOk n p c.strong (c.lane p)
/-- what is known of a pair holds -/
def KnOk (n : Nat) (c : Ch) : Prop := ∀ p, p < n → ∀ x k, (x, k) ∈ c.kn p → ∃ u s v, (x, u) ∈ c.lane p ∧ c.strong[k]? = some s ∧ Fix p s ∧ (ap s x, v) ∈ c.lane p ∧ Gen n (Sp' c.strong (p + 1)) (thn (thn u s) (invN n v))
def AllClosed (n : Nat) (c : Ch) : Prop := ∀ p, p < n → Closed p c.strong (c.lane p)
/-- all pairs are known -/
def AllKn (n : Nat) (c : Ch) : Prop := ∀ p, p < n → ∀ x u k s, (x, u) ∈ c.lane p → c.strong[k]? = some s → Fix p s → (x, k) ∈ c.kn p
structure Full (n : Nat) (c : Ch) : Prop where
  ok : ChOk n c
  kn : KnOk n c
  cl : AllClosed n c
  all : AllKn n c
section
variable {n : Nat} {c : Ch}
theorem ChOk.isP (h : ChOk n c) : ∀ s ∈ c.strong, IsP n s := fun s hs => (h.st s hs).1
theorem Full.schreier (h : Full n c) {p : Nat} (hp : p < n) : Schreier n p c.strong (c.lane p) := fun x u s v hu hs hv => by
  obtain ⟨k, hk⟩ := List.getElem?_of_mem hs.1
  obtain ⟨u', s', v', hu', hs', _, hv', hg⟩ := h.kn p hp x k (h.all p hp x u k s hu hk hs.2)
  rw [hk] at hs'
  cases (Option.some.inj hs')
  have L := h.ok.ok p hp
  have e1 : u = u' := Option.some.inj ((look_of L.nd hu).symm.trans (look_of L.nd hu'))
  have e2 : v = v' := Option.some.inj ((look_of L.nd hv).symm.trans (look_of L.nd hv'))
  rw [e1, e2]
  exact hg
theorem Full.split (h : Full n c) {p : Nat} (hp : p < n) {g : List Nat} (hg : Gen n (Sp' c.strong p) g) : ∃ u, (ap g p, u) ∈ c.lane p ∧ Gen n (Sp' c.strong (p + 1)) (thn g (invN n u)) :=
  split_gen h.ok.isP hp (h.ok.ok p hp) (h.cl p hp) (h.schreier hp) hg
theorem gen_end (hP : ∀ s ∈ c.strong, IsP n s) {g : List Nat} (hg : Gen n (Sp' c.strong n) g) : g = List.range n := fix_all (hg.isP (spr_isP hP)) (gen_fix (Nat.le_refl n) (spr_isP hP) (fun s hs => hs.2) hg)
/-! ### sifting -/
def siftL (n : Nat) : List LaneT → Nat → List Nat → List Nat
  | [], _, u => u
  | L :: Ls, p, u => match look L (ap u p) with
    | none => u
    | some v => siftL n Ls (p + 1) (thn u (invN n v))
def sift (n : Nat) (c : Ch) (p : Nat) (u : List Nat) : List Nat := siftL n (c.lanes.drop p) p u
theorem sift_step (h : ChOk n c) {p : Nat} (hp : p < n) (u : List Nat) : sift n c p u = match look (c.lane p) (ap u p) with | none => u | some v => sift n c (p + 1) (thn u (invN n v)) := by
  have hl := h.nl
  unfold sift Ch.lane
  rw [List.drop_eq_getElem_cons (by omega : p < c.lanes.length), List.getD_eq_getElem?_getD, List.getElem?_eq_getElem (by omega)]
  rfl
theorem sift_end (h : ChOk n c) (u : List Nat) : sift n c n u = u := by
  have hl := h.nl
  unfold sift
  rw [List.drop_of_length_le (by omega)]
  rfl
/-- what is left: u is it and what the lanes tell; it stops at a place that the lane doesn't know, or nowhere -/
theorem sift_ok (h : ChOk n c) : ∀ (d p : Nat) (u : List Nat), p + d = n → IsP n u → Fix p u → ∃ g, Gen n (Sp' c.strong p) g ∧ u = thn (sift n c p u) g ∧ IsP n (sift n c p u) ∧ Fix p (sift n c p u) ∧
    ((sift n c p u = List.range n) ∨ ∃ q, p ≤ q ∧ q < n ∧ Fix q (sift n c p u) ∧ look (c.lane q) (ap (sift n c p u) q) = none)
  | 0, p, u, hd, pu, hu => by
    have e : p = n := by omega
    subst e
    rw [sift_end h]
    have e1 := fix_all pu hu
    exact ⟨List.range p, .one, by rw [thn_one pu], pu, hu, .inl e1⟩
  | d + 1, p, u, hd, pu, hu => by
    have hp : p < n := by omega
    rw [sift_step h hp]
    cases hlk : look (c.lane p) (ap u p) with
    | none => exact ⟨List.range n, .one, by rw [thn_one pu], pu, hu, .inr ⟨p, Nat.le_refl _, hp, hu, hlk⟩⟩
    | some v =>
      have L := h.ok p hp
      obtain ⟨pv, fv, av, gv⟩ := L.el _ _ (look_mem hlk)
      have hf : Fix (p + 1) (thn u (invN n v)) := fun i hi => by
        rw [ap_thn (by rw [isP_len pu]; omega)]
        rcases Nat.lt_or_eq_of_le (Nat.le_of_lt_succ hi) with z | z
        · rw [hu i z]
          exact fix_und (Nat.le_of_lt hp) pv fv i z
        · subst z
          rw [← av]
          exact und_ap pv hp
      obtain ⟨g, hg, e, h3, h4, h5⟩ := sift_ok h d (p + 1) (thn u (invN n v)) (by omega) (thn_isP pu (und_isP pv)) hf
      refine ⟨thn g v, Gen.thn (spr_isP h.isP) (Gen.sub (fun s hs => spr_le (Nat.le_succ p) hs) hg) gv, ?_, h3, fix_mono h4 (Nat.le_succ p), ?_⟩
      · rw [← thn_assoc h3 (hg.isP (spr_isP h.isP)), ← e, thn_und_cancel pu pv]
      · rcases h5 with h5 | ⟨q, h6, h7, h8, h9⟩
        · exact .inl h5
        · exact .inr ⟨q, by omega, h7, h8, h9⟩
/-- in a full chain nothing is left of what the strong ones come to -/
theorem sift_full (h : Full n c) : ∀ (d p : Nat) (u : List Nat), p + d = n → Gen n (Sp' c.strong p) u → sift n c p u = List.range n
  | 0, p, u, hd, hu => by
    have e : p = n := by omega
    subst e
    rw [sift_end h.ok]
    exact gen_end h.ok.isP hu
  | d + 1, p, u, hd, hu => by
    have hp : p < n := by omega
    obtain ⟨v, hv, hg⟩ := h.split hp hu
    rw [sift_step h.ok hp, look_of (h.ok.ok p hp).nd hv]
    exact sift_full h d (p + 1) _ (by omega) hg
theorem has_iff (h : Full n c) {u : List Nat} (pu : IsP n u) : sift n c 0 u = List.range n ↔ Gen n (Sp' c.strong 0) u := by
  constructor
  · intro e
    obtain ⟨g, hg, hu, _⟩ := sift_ok h.ok n 0 u (by omega) pu (fun i hi => absurd hi (Nat.not_lt_zero _))
    rw [e, one_thn (hg.isP (spr_isP h.ok.isP))] at hu
    rw [hu]
    exact hg
  · exact sift_full h n 0 u (by omega)
/-! ### how many -/
def prodsF (n : Nat) : List LaneT → List (List Nat)
  | [] => [List.range n]
  | L :: Ls => L.flatMap fun e => (prodsF n Ls).map fun g => thn g e.2
def countF (Ls : List LaneT) : Nat := (Ls.map List.length).foldl (· * ·) 1
theorem prods_len (n : Nat) : ∀ Ls : List LaneT, (prodsF n Ls).length = (Ls.map List.length).foldr (· * ·) 1
  | [] => rfl
  | L :: Ls => by
    rw [List.map_cons, List.foldr_cons, ← prods_len n Ls]
    show (L.flatMap fun e => (prodsF n Ls).map fun g => thn g e.2).length = _
    induction L with
    | nil => simp
    | cons e L ih =>
      rw [List.flatMap_cons, List.length_append, ih, List.length_map, List.length_cons, Nat.succ_mul]
      omega
theorem prods_mem (h : Full n c) : ∀ (d p : Nat), p + d = n → (prodsF n (c.lanes.drop p)).Nodup ∧ ∀ g, g ∈ prodsF n (c.lanes.drop p) ↔ Gen n (Sp' c.strong p) g
  | 0, p, hd => by
    have hl := h.ok.nl
    have e : p = n := by omega
    subst e
    rw [List.drop_of_length_le (by omega)]
    refine ⟨by simp [prodsF], fun g => ?_⟩
    show g ∈ [List.range p] ↔ _
    rw [List.mem_singleton]
    exact ⟨fun e => e ▸ .one, fun hg => gen_end h.ok.isP hg⟩
  | d + 1, p, hd => by
    have hl := h.ok.nl
    have hp : p < n := by omega
    obtain ⟨i1, i2⟩ := prods_mem h d (p + 1) (by omega)
    have L := h.ok.ok p hp
    have e0 : c.lanes.drop p = c.lane p :: c.lanes.drop (p + 1) := by
      rw [List.drop_eq_getElem_cons (by omega : p < c.lanes.length)]
      unfold Ch.lane
      rw [List.getD_eq_getElem?_getD, List.getElem?_eq_getElem (by omega)]
      rfl
    rw [e0]
    have hin : ∀ g, g ∈ prodsF n (c.lanes.drop (p + 1)) → IsP n g ∧ Fix (p + 1) g := fun g hg => by
      have hg := (i2 g).mp hg
      exact ⟨hg.isP (spr_isP h.ok.isP), gen_fix (by omega) (spr_isP h.ok.isP) (fun s hs => hs.2) hg⟩
    have key : ∀ e ∈ c.lane p, ∀ g ∈ prodsF n (c.lanes.drop (p + 1)), ap (thn g e.2) p = e.1 := fun e he g hg => by
      obtain ⟨pg, fg⟩ := hin g hg
      obtain ⟨_, _, ae, _⟩ := L.el e.1 e.2 he
      rw [ap_thn (by rw [isP_len pg]; exact hp), fg p (Nat.lt_succ_self p), ae]
    refine ⟨?_, fun g => ?_⟩
    · show ((c.lane p).flatMap fun e => (prodsF n (c.lanes.drop (p + 1))).map fun g => thn g e.2).Nodup
      have hnd := L.nd
      have hsub : ∀ e ∈ c.lane p, e ∈ c.lane p := fun e he => he
      revert hnd hsub
      generalize hM : c.lane p = M at *
      have : ∀ M' : LaneT, (M'.map (·.1)).Nodup → (∀ e ∈ M', e ∈ M) → (M'.flatMap fun e => (prodsF n (c.lanes.drop (p + 1))).map fun g => thn g e.2).Nodup := fun M' => by
        induction M' with
        | nil =>
          intro _ _
          simp
        | cons e M' ih =>
          intro nd hs
          rw [List.map_cons] at nd
          obtain ⟨n1, n2⟩ := List.nodup_cons.mp nd
          rw [List.flatMap_cons, List.nodup_append]
          obtain ⟨pe, _, _, _⟩ := L.el e.1 e.2 (hs e List.mem_cons_self)
          refine ⟨?_, ih n2 fun x hx => hs x (List.mem_cons_of_mem _ hx), ?_⟩
          · refine List.pairwise_iff_getElem.mpr fun i j hi hj hij z => ?_
            rw [List.length_map] at hi hj
            simp only [List.getElem_map] at z
            have p1 := (hin _ (List.getElem_mem hi)).1
            have p2 := (hin _ (List.getElem_mem hj)).1
            have z2 := congrArg (fun w => thn w (invN n e.2)) z
            simp only [thn_cancel_und p1 pe, thn_cancel_und p2 pe] at z2
            exact List.pairwise_iff_getElem.mp i1 i j hi hj hij z2
          · intro a ha b hb z
            obtain ⟨g, hg, rfl⟩ := List.mem_map.mp ha
            obtain ⟨e2, he2, hb2⟩ := List.mem_flatMap.mp hb
            obtain ⟨g2, hg2, rfl⟩ := List.mem_map.mp hb2
            have k1 := key e (hs e List.mem_cons_self) g hg
            have k2 := key e2 (hs e2 (List.mem_cons_of_mem _ he2)) g2 hg2
            rw [z, k2] at k1
            exact n1 (List.mem_map.mpr ⟨e2, he2, k1⟩)
      exact fun hnd hsub => this M hnd hsub
    · show g ∈ ((c.lane p).flatMap fun e => (prodsF n (c.lanes.drop (p + 1))).map fun g => thn g e.2) ↔ _
      rw [List.mem_flatMap]
      constructor
      · rintro ⟨e, he, hg⟩
        obtain ⟨h0, hh, rfl⟩ := List.mem_map.mp hg
        obtain ⟨_, _, _, ge⟩ := L.el e.1 e.2 he
        exact Gen.thn (spr_isP h.ok.isP) (Gen.sub (fun s hs => spr_le (Nat.le_succ p) hs) ((i2 h0).mp hh)) ge
      · intro hg
        obtain ⟨u, hu, hh⟩ := h.split hp hg
        obtain ⟨pu, _, _, _⟩ := L.el _ _ hu
        exact ⟨_, hu, List.mem_map.mpr ⟨_, (i2 _).mpr hh, thn_und_cancel (hg.isP (spr_isP h.ok.isP)) pu⟩⟩
theorem foldl_mul (l : List Nat) : ∀ a : Nat, l.foldl (· * ·) a = a * l.foldr (· * ·) 1 := by
  induction l with
  | nil => intro a; simp
  | cons x l ih =>
    intro a
    rw [List.foldl_cons, ih, List.foldr_cons, Nat.mul_assoc]
/-- the count of a full chain is how many the strong ones come to -/
theorem count_ok (h : Full n c) {gs : List (List Nat)} (nd : gs.Nodup) (hg : ∀ g, g ∈ gs ↔ Gen n (Sp' c.strong 0) g) : countF c.lanes = gs.length := by
  obtain ⟨h1, h2⟩ := prods_mem h n 0 (by omega)
  rw [List.drop_zero] at h1 h2
  have hp : (prodsF n c.lanes).Perm gs := (List.perm_ext_iff_of_nodup h1 nd).mpr fun g => by rw [h2, hg]
  rw [← hp.length_eq, prods_len]
  unfold countF
  rw [foldl_mul, Nat.one_mul]
end
end WT
/-! Chains of lanes: one step at a time. -/
namespace WT
section
variable {n p : Nat} {strong : List (List Nat)} {L : LaneT} {c : Ch}
theorem spr_app {r s : List Nat} {p : Nat} (h : Sp' strong p s) : Sp' (strong ++ [r]) p s := ⟨List.mem_append_left _ h.1, h.2⟩
theorem LaneOk.app {r : List Nat} (h : LaneOk n p strong L) : LaneOk n p (strong ++ [r]) L := ⟨h.base, h.nd, fun x u hx => by
  obtain ⟨h1, h2, h3, h4⟩ := h.el x u hx
  exact ⟨h1, h2, h3, Gen.sub (fun s hs => spr_app hs) h4⟩⟩
theorem LaneOk.add (hP : ∀ s ∈ strong, IsP n s) (hp : p < n) (h : LaneOk n p strong L) {x : Nat} {u s : List Nat} (hx : (x, u) ∈ L) (hs : Sp' strong p s) (hn : look L (ap s x) = none) : LaneOk n p strong (L ++ [(ap s x, thn u s)]) := by
  obtain ⟨h1, h2, h3, h4⟩ := h.el x u hx
  have ps := hP s hs.1
  refine ⟨List.mem_append_left _ h.base, ?_, fun y v hy => ?_⟩
  · rw [List.map_append, List.nodup_append]
    refine ⟨h.nd, by simp, fun a ha b hb z => ?_⟩
    have hb2 : b = ap s x := by simpa using hb
    subst hb2
    subst z
    obtain ⟨⟨a', v⟩, hv, e⟩ := List.mem_map.mp ha
    have e' : a' = ap s x := e
    subst e'
    exact look_none.mp hn v hv
  · rcases List.mem_append.mp hy with z | z
    · exact h.el y v z
    · have e := List.mem_singleton.mp z
      obtain ⟨e1, e2⟩ := Prod.mk.inj e
      subst e1 e2
      refine ⟨thn_isP h1 ps, fix_thn (Nat.le_of_lt hp) h1 h2 hs.2, ?_, .mul h4 hs⟩
      rw [ap_thn (by rw [isP_len h1]; exact hp), h3]
theorem LaneOk.size (h : LaneOk n p strong L) (hp : p < n) : L.length ≤ n := by
  have := nd_le (m := n) (l := L.map (·.1)) h.nd fun x hx => by
    obtain ⟨⟨a, u⟩, hu, rfl⟩ := List.mem_map.mp hx
    exact h.key_lt hp hu
  rw [List.length_map] at this
  exact this
/-! ### the parts of a chain changed -/
def Ch.app (c : Ch) (r : List Nat) : Ch := { c with strong := c.strong ++ [r] }
def Ch.setLane (c : Ch) (p : Nat) (L : LaneT) : Ch := { c with lanes := c.lanes.set p L }
def Ch.setKn (c : Ch) (p : Nat) (e : List (Nat × Nat)) : Ch := { c with known := c.known.set p e }
theorem lane_set {p q : Nat} {L : LaneT} (hp : p < c.lanes.length) : (c.setLane p L).lane q = if q = p then L else c.lane q := by
  unfold Ch.setLane Ch.lane
  rw [List.getD_eq_getElem?_getD, List.getD_eq_getElem?_getD, List.getElem?_set]
  by_cases h : p = q
  · subst h
    rw [if_pos rfl, if_pos hp, if_pos rfl, Option.getD_some]
  · rw [if_neg h, if_neg (fun z => h z.symm)]
theorem kn_set {p q : Nat} {e : List (Nat × Nat)} (hp : p < c.known.length) : (c.setKn p e).kn q = if q = p then e else c.kn q := by
  unfold Ch.setKn Ch.kn
  rw [List.getD_eq_getElem?_getD, List.getD_eq_getElem?_getD, List.getElem?_set]
  by_cases h : p = q
  · subst h
    rw [if_pos rfl, if_pos hp, if_pos rfl, Option.getD_some]
  · rw [if_neg h, if_neg (fun z => h z.symm)]
theorem ChOk.app (h : ChOk n c) {r : List Nat} (hr : IsP n r) (h1 : r ≠ List.range n) : ChOk n (c.app r) := ⟨h.nl, h.nk, fun s hs => by
  rcases List.mem_append.mp hs with z | z
  · exact h.st s z
  · rw [List.mem_singleton.mp z]
    exact ⟨hr, h1⟩, fun p hp => (h.ok p hp).app⟩
theorem KnOk.app (h : KnOk n c) {r : List Nat} : KnOk n (c.app r) := fun p hp x k hk => by
  obtain ⟨u, s, v, h1, h2, h3, h4, h5⟩ := h p hp x k hk
  refine ⟨u, s, v, h1, ?_, h3, h4, Gen.sub (fun s hs => spr_app hs) h5⟩
  show (c.strong ++ [r])[k]? = some s
  rw [List.getElem?_append_left (List.getElem?_eq_some_iff.mp h2).1]
  exact h2
theorem ChOk.setLane (h : ChOk n c) {p : Nat} (hp : p < n) {L : LaneT} (hL : LaneOk n p c.strong L) : ChOk n (c.setLane p L) := ⟨by
  show (c.lanes.set p L).length = n
  rw [List.length_set, h.nl], h.nk, h.st, fun q hq => by
  rw [lane_set (by rw [h.nl]; exact hp)]
  split
  · rename_i e
    rw [e]
    exact hL
  · exact h.ok q hq⟩
theorem KnOk.setLane (h : KnOk n c) (hc : ChOk n c) {p : Nat} (hp : p < n) {L : LaneT} (hL : ∀ e ∈ c.lane p, e ∈ L) : KnOk n (c.setLane p L) := fun q hq x k hk => by
  obtain ⟨u, s, v, h1, h2, h3, h4, h5⟩ := h q hq x k hk
  have up : ∀ e, e ∈ c.lane q → e ∈ (c.setLane p L).lane q := fun e he => by
    rw [lane_set (by rw [hc.nl]; exact hp)]
    split
    · rename_i z
      rw [z] at he
      exact hL e he
    · exact he
  exact ⟨u, s, v, up _ h1, h2, h3, up _ h4, h5⟩
theorem ChOk.setKn (h : ChOk n c) (p : Nat) (e : List (Nat × Nat)) : ChOk n (c.setKn p e) := ⟨h.nl, by
  show (c.known.set p e).length = n
  rw [List.length_set, h.nk], h.st, h.ok⟩
/-- a pair is known: what it tells is r and what the next lanes tell -/
theorem KnOk.add (h : KnOk n c) (hc : ChOk n c) {p : Nat} (hp : p < n) {x k : Nat} {u s v : List Nat} (h1 : (x, u) ∈ c.lane p) (h2 : c.strong[k]? = some s) (h3 : Fix p s) (h4 : (ap s x, v) ∈ c.lane p) (h5 : Gen n (Sp' c.strong (p + 1)) (thn (thn u s) (invN n v))) :
    KnOk n (c.setKn p (c.kn p ++ [(x, k)])) := fun q hq y j hj => by
  rw [kn_set (by rw [hc.nk]; exact hp)] at hj
  split at hj
  · rename_i e
    subst e
    rcases List.mem_append.mp hj with z | z
    · exact h q hq y j z
    · obtain ⟨e1, e2⟩ := Prod.mk.inj (List.mem_singleton.mp z)
      subst e1 e2
      exact ⟨u, s, v, h1, h2, h3, h4, h5⟩
  · exact h q hq y j hj
/-- what was left is found at a place the lane doesn't know -/
structure Left (n : Nat) (c : Ch) (r : List Nat) (q : Nat) : Prop where
  isP : IsP n r
  lt : q < n
  fix : Fix q r
  new : look (c.lane q) (ap r q) = none
theorem Left.ne (h : Left n c r q) (hc : ChOk n c) : ap r q ≠ q := fun z => by
  have := look_none.mp h.new (List.range n)
  rw [z] at this
  exact this (hc.ok q h.lt).base
theorem Left.not_one (h : Left n c r q) (hc : ChOk n c) : r ≠ List.range n := fun z => by
  refine h.ne hc ?_
  rw [z]
  exact ap_one h.lt
/-- the first place that a position moves -/
def firstMoved : Nat → List Nat → Option Nat
  | _, [] => none
  | i, x :: r => if x ≠ i then some i else firstMoved (i + 1) r
theorem firstMoved_iff : ∀ (u : List Nat) (i : Nat), (firstMoved i u = none ↔ ∀ j x : Nat, u[j]? = some x → x = i + j) ∧ ∀ q, firstMoved i u = some q → i ≤ q ∧ ∃ x, u[q - i]? = some x ∧ x ≠ q ∧ ∀ j y : Nat, j < q - i → u[j]? = some y → y = i + j
  | [], i => ⟨⟨fun _ j x h => (by simp at h), fun _ => rfl⟩, fun q h => (by cases h)⟩
  | a :: r, i => by
    obtain ⟨h1, h2⟩ := firstMoved_iff r (i + 1)
    unfold firstMoved
    by_cases e : a = i
    · subst e
      rw [if_neg (fun z => z rfl)]
      refine ⟨⟨fun h j x hj => ?_, fun h => h1.mpr fun j x hj => ?_⟩, fun q hq => ?_⟩
      · cases j with
        | zero =>
          have := Option.some.inj hj
          omega
        | succ j =>
          have := h1.mp h j x (by simpa using hj)
          omega
      · have := h (j + 1) x (by simpa using hj)
        omega
      · obtain ⟨g1, x, g2, g3, g4⟩ := h2 q hq
        refine ⟨by omega, x, ?_, g3, fun j y hj hy => ?_⟩
        · have : q - a = (q - (a + 1)) + 1 := by omega
          rw [this]
          simpa using g2
        · cases j with
          | zero =>
            have := Option.some.inj hy
            omega
          | succ j =>
            have := g4 j y (by omega) (by simpa using hy)
            omega
    · rw [if_pos e]
      refine ⟨⟨fun h => (by cases h), fun h => ?_⟩, fun q hq => ?_⟩
      · have := h 0 a rfl
        omega
      · cases (Option.some.inj hq)
        exact ⟨Nat.le_refl _, a, by simp, e, fun j y hj => by omega⟩
/-- a position moves nothing, or first the place below which it is fixed -/
theorem firstMoved_one {u : List Nat} (hu : IsP n u) : firstMoved 0 u = none ↔ u = List.range n := by
  have hl := isP_len hu
  rw [(firstMoved_iff u 0).1]
  constructor
  · intro h
    refine ext_ap hl List.length_range fun i hi => ?_
    rw [ap_one hi, h i _ (ap_get (by omega))]
    omega
  · rintro rfl j x hj
    have h1 := (List.getElem?_eq_some_iff.mp hj).1
    rw [List.length_range] at h1
    rw [List.getElem?_range h1] at hj
    have := Option.some.inj hj
    omega
theorem firstMoved_at {u : List Nat} (hu : IsP n u) {q : Nat} (h : firstMoved 0 u = some q) : q < n ∧ Fix q u ∧ ap u q ≠ q := by
  obtain ⟨_, x, h2, h3, h4⟩ := (firstMoved_iff u 0).2 q h
  rw [Nat.sub_zero] at h2 h4
  have hl := isP_len hu
  have hq := (List.getElem?_eq_some_iff.mp h2).1
  refine ⟨by omega, fun i hi => ?_, ?_⟩
  · have := h4 i _ hi (ap_get (by omega))
    omega
  · rw [ap_of h2]
    exact h3
theorem firstMoved_fix {u : List Nat} (hu : IsP n u) {q : Nat} (h : firstMoved 0 u = some q) (p : Nat) : p ≤ q ↔ Fix p u := by
  obtain ⟨h1, h2, h3⟩ := firstMoved_at hu h
  constructor
  · intro hp
    exact fix_mono h2 hp
  · intro hf
    rcases Nat.lt_or_ge q p with z | z
    · exact absurd (hf q z) h3
    · exact z
theorem Left.first (h : Left n c r q) (hc : ChOk n c) : firstMoved 0 r = some q := by
  cases hf : firstMoved 0 r with
  | none => exact absurd ((firstMoved_one h.isP).mp hf) (h.not_one hc)
  | some q' =>
    obtain ⟨h1, h2, h3⟩ := firstMoved_at h.isP hf
    have e : q' = q := by
      rcases Nat.lt_trichotomy q q' with z | z | z
      · exact absurd (h2 q z) (h.ne hc)
      · exact z.symm
      · exact absurd (h.fix q' z) h3
    rw [e]
/-! ### a chain of nothing -/
def Ch.none (n : Nat) : Ch := ⟨(List.range n).map fun p => [(p, List.range n)], [], List.replicate n []⟩
theorem none_lane {n p : Nat} (hp : p < n) : (Ch.none n).lane p = [(p, List.range n)] := by
  unfold Ch.none Ch.lane
  rw [List.getD_eq_getElem?_getD, List.getElem?_map, List.getElem?_range hp]
  rfl
theorem none_kn {n p : Nat} : (Ch.none n).kn p = [] := by
  unfold Ch.none Ch.kn
  rw [List.getD_eq_getElem?_getD, List.getElem?_replicate]
  split <;> rfl
theorem none_full (n : Nat) : Full n (Ch.none n) := by
  refine ⟨⟨(by simp [Ch.none]), (by simp [Ch.none]), fun s hs => (by cases hs), fun p hp => ?_⟩, fun p hp x k hk => ?_, fun p hp x u hx s hs => (by cases hs.1), fun p hp x u k s hx hk => (by simp [Ch.none] at hk)⟩
  · rw [none_lane hp]
    refine ⟨List.mem_singleton.mpr rfl, by simp, fun x u hx => ?_⟩
    obtain ⟨e1, e2⟩ := Prod.mk.inj (List.mem_singleton.mp hx)
    subst e1 e2
    exact ⟨one_isP n, fix_one (Nat.le_of_lt hp), ap_one hp, .one⟩
  · rw [none_kn] at hk
    cases hk
end
end WT
/-! A chain of lanes as it stands in the heap. -/
namespace WT
open PySem PySem.Spec PyProof.Rows L2 Evl
/-- an object's own parts -/
structure LOwn where
  dx : Addr
  ln : Addr
  kn : Addr
  sg : Addr
  dl : List Addr
  kl : List Addr
def LOwn.all (o : LOwn) (a : Addr) : List Addr := a :: o.dx :: o.ln :: o.kn :: o.sg :: (o.dl ++ o.kl)
/-- all but some is as it was -/
def OBut (S : List Addr) (H H' : Hp) : Prop := ∀ q u, q ∉ S → H q = some u → H' q = some u
theorem OBut.refl (S : List Addr) (H : Hp) : OBut S H H := fun _ _ _ h => h
theorem OBut.trans {S : List Addr} {H H1 H2 : Hp} (a : OBut S H H1) (b : OBut S H1 H2) : OBut S H H2 := fun q u n h => b q u n (a q u n h)
theorem OBut.of {S : List Addr} {H H' : Hp} (e : Ex H H') : OBut S H H' := fun q u _ h => e q u h
theorem OBut.ex {S : List Addr} {H H1 H2 : Hp} (a : OBut S H H1) (b : Ex H1 H2) : OBut S H H2 := a.trans (OBut.of b)
theorem OBut.put {S : List Addr} {H : Hp} {p : Addr} {u : HO} (h : p ∈ S) : OBut S H (upd H p u) := fun q v n e => by rw [upd_ne (show q ≠ p from fun z => n (z ▸ h))]; exact e
theorem OBut.mut {S : List Addr} {H H1 : Hp} {p : Addr} {u : HO} (a : OBut S H H1) (h : p ∈ S) : OBut S H (upd H1 p u) := a.trans (OBut.put h)
theorem OBut.mutF {S : List Addr} {H H1 : Hp} {p : Addr} {u : HO} (a : OBut S H H1) (h : H p = none) : OBut S H (upd H1 p u) := fun q v n e => by
  have ne : q ≠ p := fun z => by
    rw [z, h] at e
    cases e
  rw [upd_ne ne]
  exact a q v n e
/-- a lane's dict -/
def DL (K : PySem.W.Frag) (H : Hp) (L : LaneT) (kvs : List (Key × V)) : Prop := kvs.map (·.1) = L.map (fun e => (Sum.inl (e.1 : Int) : Key)) ∧ FzL K H (L.map fun e => tN e.2) (kvs.map (·.2))
/-- the dict of the known pairs -/
def KL (E : List (Nat × Nat)) (kvs : List (List Key × V)) : Prop := kvs.map (·.1) = (E.map fun e => [(Sum.inl (e.1 : Int) : Key), (Sum.inl (e.2 : Int) : Key)]) ∧ E.Nodup
structure LAt (K : PySem.W.Frag) (C a : Addr) (o : LOwn) (n : Nat) (c : Ch) (H : Hp) : Prop where
  slt : SlX.Slt H a C o.dx [some (.int (n : Int)), some (.ref o.kn), some (.ref o.ln), some (.ref o.sg)]
  nd : (o.all a).Nodup
  lanes : H o.ln = some (.lst (o.dl.map V.ref))
  known : H o.kn = some (.lst (o.kl.map V.ref))
  strong : ∃ xs, H o.sg = some (.lst xs) ∧ FzL K H (c.strong.map tN) xs
  dn : o.dl.length = n
  dk : ∀ p q, o.dl[p]? = some q → ∃ kvs, H q = some (.dK kvs) ∧ DL K H (c.lane p) kvs
  kn : o.kl.length = n
  kk : ∀ p q, o.kl[p]? = some q → ∃ kvs, H q = some (.dT kvs) ∧ KL (c.kn p) kvs
section
variable {K : PySem.W.Frag} {C a : Addr} {o : LOwn} {n : Nat} {c : Ch} {H H' : Hp}
theorem DL.tex {L : LaneT} {kvs : List (Key × V)} (h : DL K H L kvs) (e : TEx H H') : DL K H' L kvs := ⟨h.1, FzL.mono e _ _ h.2⟩
theorem LAt.ex (h : LAt K C a o n c H) (e : Ex H H') : LAt K C a o n c H' := by
  obtain ⟨xs, h1, h2⟩ := h.strong
  refine ⟨slt_ex e h.slt, h.nd, e _ _ h.lanes, e _ _ h.known, ⟨xs, e _ _ h1, fzl_ex e h2⟩, h.dn, fun p q hq => ?_, h.kn, fun p q hq => ?_⟩
  · obtain ⟨kvs, k1, k2⟩ := h.dk p q hq
    exact ⟨kvs, e _ _ k1, k2.tex (tex_of e)⟩
  · obtain ⟨kvs, k1, k2⟩ := h.kk p q hq
    exact ⟨kvs, e _ _ k1, k2⟩
/-- none of the parts is a tuple -/
theorem LAt.tex (h : LAt K C a o n c H) (e : OBut (o.all a) H H') : TEx H H' := fun b xs hb => by
  refine e b _ (fun hm => ?_) hb
  unfold LOwn.all at hm
  rcases List.mem_cons.mp hm with z | hm
  · subst z
    rcases h.slt with ⟨h1, _⟩ | ⟨h1, _⟩
    · rw [hb] at h1
      cases h1
    · rw [hb] at h1
      unfold SlX.SlO at h1
      cases h1
  · rcases List.mem_cons.mp hm with z | hm
    · subst z
      rcases h.slt with ⟨_, h2⟩ | ⟨_, h2⟩
      · cases h2
      · rw [hb] at h2
        cases h2
    · rcases List.mem_cons.mp hm with z | hm
      · subst z
        rw [h.lanes] at hb
        cases hb
      · rcases List.mem_cons.mp hm with z | hm
        · subst z
          rw [h.known] at hb
          cases hb
        · rcases List.mem_cons.mp hm with z | hm
          · subst z
            obtain ⟨ys, h1, _⟩ := h.strong
            rw [h1] at hb
            cases hb
          · rcases List.mem_append.mp hm with z | z
            · obtain ⟨i, hi⟩ := List.getElem?_of_mem z
              obtain ⟨kvs, h1, _⟩ := h.dk i _ hi
              rw [h1] at hb
              cases hb
            · obtain ⟨i, hi⟩ := List.getElem?_of_mem z
              obtain ⟨kvs, h1, _⟩ := h.kk i _ hi
              rw [h1] at hb
              cases hb
/-! ### reading -/
theorem find_map {α β : Type} {f : α → β} {p : β → Bool} (l : List α) : (l.map f).find? p = (l.find? (p ∘ f)).map f := by
  induction l with
  | nil => rfl
  | cons a l ih =>
    rw [List.map_cons, List.find?_cons, List.find?_cons]
    cases h : p (f a) with
    | true => simp [h]
    | false => simp [h, ih]
/-- what the dict tells of a place -/
theorem DL.get {L : LaneT} {kvs : List (Key × V)} (h : DL K H L kvs) (x : Nat) : (look L x = none → valV kvs (Sum.inl (x : Int) : Key) = none) ∧ ∀ u, look L x = some u → ∃ v, valV kvs (Sum.inl (x : Int) : Key) = some v ∧ Fz K H (tN u) v := by
  obtain ⟨h1, h2⟩ := h
  induction L generalizing kvs with
  | nil =>
    cases kvs with
    | nil => exact ⟨fun _ => rfl, fun u hu => by cases hu⟩
    | cons kv r => simp at h1
  | cons e L ih =>
    cases kvs with
    | nil => simp at h1
    | cons kv r =>
      rw [List.map_cons, List.map_cons] at h1
      injection h1 with e1 e2
      rw [List.map_cons, List.map_cons] at h2
      obtain ⟨v, r', hv, f1, f2⟩ := fzl_consI h2
      injection hv with hv1 hv2
      subst hv1 hv2
      obtain ⟨i1, i2⟩ := ih e2 f2
      by_cases hx : e.1 = x
      · have k1 : kv.1 = (Sum.inl (x : Int) : Key) := by rw [e1, hx]
        have l1 : look (e :: L) x = some e.2 := by simp [look, List.find?_cons, hx]
        rw [l1, valV_pos k1]
        exact ⟨fun z => (by cases z), fun u hu => ⟨_, rfl, by rw [← Option.some.inj hu]; exact f1⟩⟩
      · have k1 : ¬ kv.1 = (Sum.inl (x : Int) : Key) := by
          rw [e1]
          intro z
          injection z with z
          exact hx (by omega)
        have l1 : look (e :: L) x = look L x := by simp [look, List.find?_cons, hx]
        rw [l1, valV_neg k1]
        exact ⟨i1, i2⟩
theorem KL.get {E : List (Nat × Nat)} {kvs : List (List Key × V)} (h : KL E kvs) (x k : Nat) : (valV kvs [(Sum.inl (x : Int) : Key), (Sum.inl (k : Int) : Key)]).isSome = decide ((x, k) ∈ E) := by
  replace h := h.1
  induction E generalizing kvs with
  | nil =>
    cases kvs with
    | nil => simp [valV_nil]
    | cons kv r => simp at h
  | cons e E ih =>
    cases kvs with
    | nil => simp at h
    | cons kv r =>
      rw [List.map_cons, List.map_cons] at h
      injection h with e1 e2
      by_cases hx : e = (x, k)
      · have k1 : kv.1 = [(Sum.inl (x : Int) : Key), (Sum.inl (k : Int) : Key)] := by rw [e1, hx]
        rw [valV_pos k1, hx]
        simp
      · have k1 : ¬ kv.1 = [(Sum.inl (x : Int) : Key), (Sum.inl (k : Int) : Key)] := by
          rw [e1]
          intro z
          injection z with z1 z2
          injection z1 with z1
          injection z2 with z2
          injection z2 with z2
          exact hx (Prod.ext (by omega) (by omega))
        rw [valV_neg k1, ih e2, decide_eq_decide, List.mem_cons]
        exact ⟨fun h => .inr h, fun h => h.resolve_left fun z => hx z.symm⟩
theorem pairs_len {n m : Nat} (hn : n ≤ 60) (hm : m ≤ 20001) {E : List (Nat × Nat)} (nd : E.Nodup) (h : ∀ e ∈ E, e.1 < n ∧ e.2 < m) : E.length ≤ 1300000 := by
  have h1 := nd_le (m := 1300000) (l := E.map fun e => e.1 * 20001 + e.2) (by
    refine List.pairwise_iff_getElem.mpr fun i j hi hj hij z => ?_
    rw [List.length_map] at hi hj
    simp only [List.getElem_map] at z
    have a1 := h _ (List.getElem_mem hi)
    have a2 := h _ (List.getElem_mem hj)
    have : E[i] = E[j] := Prod.ext (by omega) (by omega)
    exact List.pairwise_iff_getElem.mp nd i j hi hj hij this) fun x hx => by
    obtain ⟨e, he, rfl⟩ := List.mem_map.mp hx
    have := h e he
    omega
  rw [List.length_map] at h1
  exact h1
theorem LAt.own (h : LAt K C a o n c H) : a ∈ o.all a ∧ o.sg ∈ o.all a ∧ (∀ q ∈ o.dl, q ∈ o.all a) ∧ ∀ q ∈ o.kl, q ∈ o.all a := by
  unfold LOwn.all
  refine ⟨by simp, by simp, fun q hq => ?_, fun q hq => ?_⟩
  · simp [hq]
  · simp [hq]
end
end WT
/-! The text by places; the pot, the checks, pictures moved and their orders. -/
namespace WT
open PySem PySem.Spec PyProof.Rows L2 Evl
def top (i : Nat) : Stmt := PySem.Challenge.pw_whicheverturning_k13_whole_frames_of_pic.main.body.getD i (.Pass ⟨0, 0, 0, 0⟩)
/-- the built-in names that the text has not taken -/
structure Bt (mg : Str → Option Value) : Prop where
  len : mg "len" = none
  range : mg "range" = none
  tuple : mg "tuple" = none
  list : mg "list" = none
  int : mg "int" = none
  abs : mg "abs" = none
  sum : mg "sum" = none
  max : mg "max" = none
  min : mg "min" = none
  all : mg "all" = none
  enumerate : mg "enumerate" = none
  zip : mg "zip" = none
  isinstance : mg "isinstance" = none
  repr : mg "repr" = none
  bool : mg "bool" = none
  set : mg "set" = none
  sorted : mg "sorted" = none
/-- the module's own names for numbers and texts -/
structure Cs (mg : Str → Option Value) : Prop where
  most_wide : ∃ t, mg "MOST_WIDE" = some (.int 32 t)
  most_spots : ∃ t, mg "MOST_SPOTS" = some (.int 8 t)
  most_mark : ∃ t, mg "MOST_MARK" = some (.int 9 t)
abbrev s_law_pot : Stmt := top 31
abbrev N_law_pot : List Str := ["script", "place", "cell", "own", "small"]
theorem sc_law_pot : FnScope N_law_pot ["script", "place"] (defScope s_law_pot) := ⟨rfl, rfl, rfl, by decide +kernel, rfl, by decide +kernel, by decide +kernel⟩
section
variable {P : Program} {w : World} {K : PySem.W.Frag} {mg : Str → Option Value} {base : Heap}
theorem ok_pot (B : Bt mg) (d : DefIn K mg "_law_pot" ["script", "place"] s_law_pot) : Okd P w K mg base "_law_pot" ["script", "place"] s_law_pot 1 (spPot K) := by
  refine Okd.mk d sc_law_pot (fun vs H Q E h => ?_) (fun f cdv A outer s H vs Q E hr h => ?_)
  · obtain ⟨a, ns, i, rfl, _⟩ := h
    rfl
  · obtain ⟨a, ns, i, rfl, hS, hl, hi, k⟩ := h
    refine ⟨_, (pss_cons (ps_set (i := 2) sc_law_pot.nd rfl (Or.inl rfl) (pe_ifExp (pt_cmpR op_lt (pv 1) (pe_callB call_len_seq (by rfl) B.len boot_len (pa_cons (pv 0) pa_nil)) (nomark _)) (pe_ix ix_list (pv 0) (pv 1) (fun _ _ => rfl)) (pe_op op_add (pe_op op_add (pe_op op_mod (pe_callTy call_int1 (by rfl) B.int boot_int (pa_cons (pe_callB (cr_sum rfl) (by rfl) B.sum boot_sum (pa_cons (pe_slice sl_list (pv 0) po_none (po_some pe_int)) pa_nil)) pa_nil)) pe_int) (pe_op op_mul pe_int (pv 1))) pe_int)))
      (pss_cons (ps_set (i := 3) sc_law_pot.nd rfl (Or.inl rfl) (pe_op op_mul (pe_op op_mod (pe_callTy call_int1 (by rfl) B.int boot_int (pa_cons (pe_callB call_abs (by rfl) B.abs boot_abs (pa_cons (pv 2) pa_nil)) pa_nil)) (pe_op op_powW (pe_op op_powW pe_int pe_int) pe_int)) (pe_callTy call_int1 (by rfl) B.int boot_int (pa_cons (pe_cmpR op_ge (pe_callB call_abs (by rfl) B.abs boot_abs (pa_cons (pv 2) pa_nil)) (pe_op op_powW pe_int pe_int) (nomark _)) pa_nil))))
      (pss_cons (ps_set (i := 4) sc_law_pot.nd rfl (Or.inl rfl) (pe_op op_mod (pe_callTy call_int1 (by rfl) B.int boot_int (pa_cons (pv 2) pa_nil)) pe_int))
      (pss_one (ps_ret (pe_lst (pa_cons (pv 3) (pa_cons (pe_op op_mod (pe_callTy call_int1 (by rfl) B.int boot_int (pa_cons (pe_op op_add (pe_op op_add (pe_op op_mul (pv 4) pe_int) (pe_op op_mul (pe_op op_mul pe_int (pv 1)) (pv 1))) pe_int) pa_nil)) pe_int) (pa_cons pe_int pa_nil))))))))), ?_⟩
    refine q_asgX (P := fun v => ∃ c : Int, v = .int c) ?_ ?_
    · by_cases hp : i < ns.length
      · refine ⟨.int ns[i], ⟨_, rfl⟩, ev_if (b := true) (et_is (et_B (ev_op (ev_var rfl) (ev_len (ev_var rfl) hS) rv_I0)) (by simpa using hp)) (fun _ => ev_op (ev_var rfl) (ev_var rfl) (rv_ixL hS (atI_of (by simp [hp])))) (fun z => nomatch z)⟩
      · exact ⟨_, ⟨_, rfl⟩, ev_if (b := false) (et_is (et_B (ev_op (ev_var rfl) (ev_len (ev_var rfl) hS) rv_I0)) (by simpa using hp)) (fun z => nomatch z) (fun _ => ev_op (ev_op (ev_op (ev_int1 (ev_sumN (el_slice (ev_var rfl) eo_none (eo_some ev_c) hS ints_take))) ev_c (rv_I (by decide))) (ev_op ev_c (ev_var rfl) (rv_I (cMulL (by decide)))) rv_I0) ev_c rv_I0)⟩
    · rintro _ ⟨c, rfl⟩ H1 e1
      refine q_asg ((ev_op (ev_op (ev_int1 (ev_abs (ev_var rfl))) (ev_op (ev_op ev_c ev_c (rv_I ?_)) ev_c (rv_I ?_)) (rv_I ?_)) (ev_intB (ev_op (ev_abs (ev_var rfl)) (ev_op ev_c ev_c (rv_I ?_)) rv_I0)) (rv_I ?_))) fun H2 e2 => ?_
      · exact ⟨by decide, by decide⟩
      · exact ⟨by decide, by decide⟩
      · decide
      · exact ⟨by decide, by decide⟩
      · exact cMulR ((show ∀ z : Bool, -(2 ^ 64) < (if z = true then (1 : Int) else 0) ∧ (if z = true then (1 : Int) else 0) < 2 ^ 64 by decide) _)
      refine q_asg ((ev_op (ev_int1 (ev_var rfl)) ev_c (rv_I ?_))) fun H3 e3 => ?_
      · decide
      have hs0 := Int.emod_nonneg c (show (2305843009213693951 : Int) ≠ 0 by decide)
      have hs1 := Int.emod_lt_of_pos c (show (0 : Int) < 2305843009213693951 by decide)
      refine s_retL (Evl.el_lst (Evl.ea_cons (ev_var rfl) (Evl.ea_cons ((ev_op (ev_int1 (ev_op (ev_op (ev_op (ev_var rfl) ev_c (rv_I ?_)) (ev_op (ev_op ev_c (ev_var rfl) (rv_I ?_)) (ev_var rfl) (rv_I ?_)) rv_I0) ev_c rv_I0)) ev_c (rv_I ?_))) (Evl.ea_cons ev_c Evl.ea_nil))) (show 3 ≤ 100000 by decide)) fun p H4 hp e4 h4 => ?_
      · exact cMulR (by decide)
      · exact cMulL (by decide)
      · exact cMulR (by omega)
      · decide
      refine k p H4 ?_ (((e1.trans e2).trans e3).trans e4) ⟨_, _, _, h4, ?_, ?_, by decide, by decide⟩
      · exact fresh_back ((e1.trans e2).trans e3) hp
      · exact Int.emod_nonneg _ (by decide)
      · exact Int.lt_trans (Int.emod_lt_of_pos _ (by decide)) (by decide)
end
abbrev s_law_take : Stmt := top 32
abbrev N_law_take : List Str := ["pot", "upto", "digit", "prime", "blend"]
theorem sc_law_take : FnScope N_law_take ["pot", "upto"] (defScope s_law_take) := ⟨rfl, rfl, rfl, by decide +kernel, rfl, by decide +kernel, by decide +kernel⟩
section
variable {P : Program} {w : World} {K : PySem.W.Frag} {mg : Str → Option Value} {base : Heap}
theorem ok_take (B : Bt mg) (d : DefIn K mg "_law_take" ["pot", "upto"] s_law_take) : Okd P w K mg base "_law_take" ["pot", "upto"] s_law_take 1 spTake := by
  refine Okd.mk d sc_law_take (fun vs H Q E h => ?_) (fun f cdv A outer s H vs Q E hr h => ?_)
  · obtain ⟨p, n, u, rfl, _⟩ := h
    rfl
  · obtain ⟨p, n, u, rfl, ⟨a, b, c, hP, hb0, hb1, hc0, hc1⟩, hn, hu0, hu1, k⟩ := h
    refine ⟨_, (pss_cons (ps_if (pt_cmpR op_gt (pe_ix ix_list (pv 0) pe_int (fun _ _ => rfl)) pe_int (nomark _)) (pss_cons (ps_set (i := 2) sc_law_take.nd rfl (Or.inl rfl) (pe_op op_mod (pe_callTy call_int1 (by rfl) B.int boot_int (pa_cons (pe_ix ix_list (pv 0) pe_int (fun _ _ => rfl)) pa_nil)) (pv 1)))
        (pss_cons (ps_asg (pe_op op_fdiv (pe_ix ix_list (pv 0) pe_int (fun _ _ => rfl)) (pv 1)) (pg_sub (pv 0) pe_int set_list))
        (pss_one (ps_ret (pv 2))))) pss_nil)
      (pss_cons (ps_asg (pe_op op_add (pe_ix ix_list (pv 0) pe_int (fun _ _ => rfl)) pe_int) (pg_sub (pv 0) pe_int set_list))
      (pss_cons (ps_set (i := 3) sc_law_take.nd rfl (Or.inl rfl) (pe_ix ix_list (pe_lst (pa_cons pe_int (pa_cons pe_int (pa_cons pe_int (pa_cons pe_int (pa_cons pe_int pa_nil)))))) (pe_op op_mod (pe_callTy call_int1 (by rfl) B.int boot_int (pa_cons (pe_ix ix_list (pv 0) pe_int (fun _ _ => rfl)) pa_nil)) pe_int) (fun _ _ => rfl)))
      (pss_cons (ps_set (i := 4) sc_law_take.nd rfl (Or.inl rfl) (pe_op op_mod (pe_callTy call_int1 (by rfl) B.int boot_int (pa_cons (pe_op op_powW (pe_callTy call_int1 (by rfl) B.int boot_int (pa_cons (pe_op op_add (pe_op op_add (pe_ix ix_list (pv 0) pe_int (fun _ _ => rfl)) (pe_op op_mul (pe_op op_mul pe_int (pe_ix ix_list (pv 0) pe_int (fun _ _ => rfl))) (pe_ix ix_list (pv 0) pe_int (fun _ _ => rfl)))) pe_int) pa_nil)) pe_int) pa_nil)) (pv 3)))
      (pss_cons (ps_set (i := 4) sc_law_take.nd rfl (Or.inl rfl) (pe_op op_mod (pe_callTy call_int1 (by rfl) B.int boot_int (pa_cons (pe_op op_mul (pv 4) (pe_op op_add (pe_op op_mod (pe_callTy call_int1 (by rfl) B.int boot_int (pa_cons (pv 4) pa_nil)) pe_int) (pe_op op_mul pe_int (pe_ix ix_list (pv 0) pe_int (fun _ _ => rfl))))) pa_nil)) pe_int))
      (pss_one (ps_ret (pe_op op_mod (pe_callTy call_int1 (by rfl) B.int boot_int (pa_cons (pe_op op_fdiv (pv 4) pe_int) pa_nil)) (pv 1))))))))), ?_⟩
    refine q_when (b := decide (a > 0)) (et_B (ev_op (ev_op (ev_var rfl) ev_c (rv_ixL (sq_of hP) rfl)) ev_c rv_I0)) (fun ha H1 e1 => ?_) (fun ha H1 e1 => ?_)
    · have hp1 := e1 _ _ hP
      refine q_asg ((ev_op (ev_int1 (ev_op (ev_var rfl) ev_c (rv_ixL (sq_of hp1) rfl))) (ev_var rfl) (rv_I ?_))) fun H2 e2 => ?_
      · show (0 : Int) < _
        omega
      have hp2 := e2 _ _ hp1
      refine q_setL hp2 ((ev_op (ev_op (ev_var rfl) ev_c (rv_ixL (sq_of hp2) rfl)) (ev_var rfl) (rv_I ?_))) (ev_var rfl) ev_c (show 0 < 3 by decide) fun H3 e3 => ?_
      · exact ⟨by omega, by omega⟩
      refine s_ret (ev_var rfl) fun H4 e4 => ?_
      have z0 : 0 ≤ a % (u : Int) := Int.emod_nonneg _ (by omega)
      have z1 : a % (u : Int) < (u : Int) := Int.emod_lt_of_pos _ (by omega)
      have hd := k (a % (u : Int)).toNat H4 (by omega) (((But.of (e1.trans e2)).trans (But.of e3)).trans ((But.put (o := .lst ([.int (a / (u : Int)), .int b, .int c]))).trans (But.of e4))) ⟨_, b, c, e4 _ _ upd_same, hb0, hb1, hc0, by omega⟩
      rw [Int.toNat_of_nonneg z0] at hd
      exact hd
    · have hp1 := e1 _ _ hP
      refine q_setL hp1 ((ev_op (ev_op (ev_var rfl) ev_c (rv_ixL (sq_of hp1) rfl)) ev_c rv_I0)) (ev_var rfl) ev_c (show 2 < 3 by decide) fun H2 e2 => ?_
      generalize hH3 : upd H2 p (.lst (([.int a, .int b, .int c] : List V).set 2 (.int (c + 1)))) = H3
      have hp3 : H3 p = some (.lst [.int a, .int b, .int (c + 1)]) := by
        rw [← hH3]
        exact upd_same
      have e03 : But p H H3 := by
        rw [← hH3]
        exact ((But.of e1).trans (But.of e2)).trans But.put
      refine q_asgX (P := fun v => ∃ r : Int, v = .int r ∧ 0 < r ∧ r < 2 ^ 31) ?_ ?_
      · have m0 := Int.emod_nonneg (c + 1) (show (5 : Int) ≠ 0 by decide)
        have m1 := Int.emod_lt_of_pos (c + 1) (show (0 : Int) < 5 by decide)
        have hl := fun {σ : L2.St} {H : Hp} => Evl.el_lst (σ := σ) (H := H) (vs := [.int 2147483647, .int 2147483629, .int 2147483587, .int 2147483579, .int 2147483563]) (Evl.ea_cons ev_c (Evl.ea_cons ev_c (Evl.ea_cons ev_c (Evl.ea_cons ev_c (Evl.ea_cons ev_c Evl.ea_nil))))) (by decide)
        rcases (show (c + 1) % 5 = 0 ∨ (c + 1) % 5 = 1 ∨ (c + 1) % 5 = 2 ∨ (c + 1) % 5 = 3 ∨ (c + 1) % 5 = 4 by omega) with z | z | z | z | z
        all_goals refine ⟨_, ⟨_, rfl, ?_, ?_⟩, ev_opL1 hl (fun H1 e => ev_val (ev_op (ev_int1 (ev_op (ev_var rfl) ev_c (rv_ixL (sq_of (e _ _ hp3)) rfl))) ev_c (rv_I ?_)) (congrArg V.int z)) fun q H1 hq _ => rv_ixL (sq_of hq) rfl⟩
        all_goals decide
      · rintro _ ⟨r, rfl, r0, r1⟩ H4 e4
        have hp4 := e4 _ _ hp3
        have hcc : (c + 1) * (c + 1) ≤ 1000001 * 1000001 := Int.mul_le_mul (by omega) (by omega) (by omega) (by decide)
        have hcc0 : 0 ≤ (c + 1) * (c + 1) := Int.mul_nonneg (by omega) (by omega)
        have easc : (91199 : Int) * (c + 1) * (c + 1) = 91199 * ((c + 1) * (c + 1)) := Int.mul_assoc _ _ _
        refine q_asg ((ev_op (ev_int1 (ev_op (ev_int1 (ev_op (ev_op (ev_op (ev_var rfl) ev_c (rv_ixL (sq_of hp4) rfl)) (ev_op (ev_op ev_c (ev_op (ev_var rfl) ev_c (rv_ixL (sq_of hp4) rfl)) (rv_I ?_)) (ev_op (ev_var rfl) ev_c (rv_ixL (sq_of hp4) rfl)) (rv_I ?_)) rv_I0) ev_c rv_I0)) ev_c (rv_I ?_))) (ev_var rfl) (rv_I ?_))) fun H5 e5 => ?_
        · exact cMulL (by decide)
        · exact cMulR ⟨by omega, by omega⟩
        · refine ⟨by decide, ?_⟩
          have hbits := bits_le (i := b + 91199 * (c + 1) * (c + 1) + 2477) (n := 64) (by rw [easc]; omega) (by decide)
          omega
        · exact r0
        generalize hB : (b + 91199 * (c + 1) * (c + 1) + 2477) ^ (3 : Int).toNat % r = bl
        have hb2 : 0 ≤ bl := by
          rw [← hB]
          exact Int.emod_nonneg _ (by omega)
        have hb3 : bl < r := by
          rw [← hB]
          exact Int.emod_lt_of_pos _ r0
        have hp5 := e5 _ _ hp4
        refine q_asg ((ev_op (ev_int1 (ev_op (ev_var rfl) (ev_op (ev_op (ev_int1 (ev_var rfl)) ev_c (rv_I ?_)) (ev_op ev_c (ev_op (ev_var rfl) ev_c (rv_ixL (sq_of hp5) rfl)) (rv_I ?_)) rv_I0) (rv_I ?_))) ev_c (rv_I ?_))) fun H6 e6 => ?_
        · decide
        · exact cMulL (by decide)
        · exact cMulL ⟨by omega, by omega⟩
        · decide
        refine s_ret ((ev_op (ev_int1 (ev_op (ev_var rfl) ev_c (rv_I ?_))) (ev_var rfl) (rv_I ?_))) fun H7 e7 => ?_
        · exact ⟨by decide, by decide⟩
        · show (0 : Int) < _
          omega
        generalize hC : bl * (bl % 12659 + 397 * (c + 1)) % 2305843009213693907 / 211 = q
        have z0 : 0 ≤ q % (u : Int) := Int.emod_nonneg _ (by omega)
        have z1 : q % (u : Int) < (u : Int) := Int.emod_lt_of_pos _ (by omega)
        have hd := k (q % (u : Int)).toNat H7 (by omega) (e03.trans (((But.of e4).trans (But.of e5)).trans ((But.of e6).trans (But.of e7)))) ⟨_, b, _, e7 _ _ (e6 _ _ hp5), hb0, hb1, by omega, by omega⟩
        rw [Int.toNat_of_nonneg z0] at hd
        exact hd
end
abbrev s_law_cells : Stmt := top 33
abbrev N_law_cells : List Str := ["script", "most"]
theorem sc_law_cells : FnScope N_law_cells ["script", "most"] (defScope s_law_cells) := ⟨rfl, rfl, rfl, by decide +kernel, rfl, by decide +kernel, by decide +kernel⟩
section
variable {P : Program} {w : World} {K : PySem.W.Frag} {mg : Str → Option Value} {base : Heap}
theorem ok_cells (B : Bt mg) (d : DefIn K mg "_law_cells" ["script", "most"] s_law_cells) : Okd P w K mg base "_law_cells" ["script", "most"] s_law_cells 1 (spCells K) := by
  refine Okd.mk d sc_law_cells (fun vs H Q E h => ?_) (fun f cdv A outer s H vs Q E hr h => ?_)
  · obtain ⟨a, xs, rfl, _⟩ := h
    rfl
  · obtain ⟨a, xs, rfl, hS, hl, k⟩ := h
    refine ⟨_, (pss_one (ps_ret (pe_listRg rfl (by rfl) B.list (prg_1 (by rfl) B.range (pe_callB (call_max2 rfl) (by rfl) B.max boot_max (pa_cons pe_int (pa_cons (pe_callB (call_min2 rfl) (by rfl) B.min boot_min (pa_cons (pv 1) (pa_cons (pe_callB call_len_seq (by rfl) B.len boot_len (pa_cons (pv 0) pa_nil)) pa_nil))) pa_nil))))))), ?_⟩
    refine s_retE (K := K) (ev_listRg (n := max 1 (min 3 xs.length)) (ev_is (ev_max2 ev_c (ev_min2 (ev_var rfl) (ev_len (ev_var rfl) hS))) ?_) (by omega)) fun p ys H1 hp e1 h1 f1 => k (max 1 (min 3 xs.length)) p H1 (by omega) hp e1 (by rw [h1, fzl_nats.mp f1])
    congr 1
    split <;> split <;> omega
end
abbrev s_is_int : Stmt := top 7
abbrev N_is_int : List Str := ["value", "low", "high"]
theorem sc_is_int : FnScope N_is_int ["value", "low", "high"] (defScope s_is_int) := ⟨rfl, rfl, rfl, by decide +kernel, rfl, by decide +kernel, by decide +kernel⟩
section
variable {P : Program} {w : World} {K : PySem.W.Frag} {mg : Str → Option Value} {base : Heap}
theorem ok_is_int (B : Bt mg) (d : DefIn K mg "is_int" ["value", "low", "high"] s_is_int) : Okd P w K mg base "is_int" ["value", "low", "high"] s_is_int 1 (spD K 3 rIsInt) := by
  refine Okd.mk d sc_is_int (fun vs H Q E h => spD_len h) (fun f cdv A outer s H vs Q E hr h => ?_)
  obtain ⟨as, d, _, hv, ⟨i, lo, hi, rfl, rfl⟩, k⟩ := h
  obtain ⟨_, _, _, rfl, rfl, rfl, rfl⟩ := agl3 hv
  refine ⟨_, (pss_one (ps_ret (pe_and (pe_callB call_isi (by rfl) B.isinstance boot_isinstance (pa_cons (pv 0) (pa_cons (pe_bltn (v := V.ty "int") (u := Value.type "int") (by rfl) B.int boot_int rfl) pa_nil))) (pe_and (pe_not (pe_callB call_isi (by rfl) B.isinstance boot_isinstance (pa_cons (pv 0) (pa_cons (pe_bltn (v := V.ty "bool") (u := Value.type "bool") (by rfl) B.bool boot_bool rfl) pa_nil)))) (pe_one (pe_chain op_le op_le (pv 1) (pv 0) (pv 2))))))), ?_⟩
  refine s_ret (ev_andV (ev_isiI (ev_var rfl) rfl) fun _ => ev_andV (ev_notV (ev_isiI (ev_var rfl) rfl)) fun _ => ev_chain (ev_var rfl) (ev_var rfl) (ev_var rfl)) fun H1 e1 => k _ H1 e1 ?_
  exact fz_bl
end
abbrev s_is_position_of : Stmt := top 8
abbrev N_is_position_of : List Str := ["many", "value", "one"]
theorem sc_is_position_of : FnScope N_is_position_of ["many", "value"] (defScope s_is_position_of) := ⟨rfl, rfl, rfl, by decide +kernel, rfl, by decide +kernel, by decide +kernel⟩
section
variable {P : Program} {w : World} {K : PySem.W.Frag} {mg : Str → Option Value} {base : Heap}
theorem ok_is_position_of (B : Bt mg) (o_is_int : Okd P w K mg base "is_int" ["value", "low", "high"] s_is_int 1 (spD K 3 rIsInt)) (d : DefIn K mg "is_position_of" ["many", "value"] s_is_position_of) : Okd P w K mg base "is_position_of" ["many", "value"] s_is_position_of 2 (spD K 2 rIsPos) := by
  refine Okd.mk d sc_is_position_of (fun vs H Q E h => spD_len h) (fun f cdv A outer s H vs Q E hr h => ?_)
  obtain ⟨as, d, _, hv, ⟨m, p, rfl, hm, hp, rfl⟩, k⟩ := h
  obtain ⟨_, y, rfl, rfl, hy⟩ := agl2 hv
  replace hy := agd hy
  refine ⟨_, (pss_cons (ps_if (PW.pt (pw_or (pt_not (pt_val (pe_callB call_isi (by rfl) B.isinstance boot_isinstance (pa_cons (pv 1) (pa_cons (pe_bltn (v := V.ty "tuple") (u := Value.type "tuple") (by rfl) B.tuple boot_tuple rfl) pa_nil))))) (pw_or (pt_cmpR op_ne (pe_callB call_len_seq (by rfl) B.len boot_len (pa_cons (pv 1) pa_nil)) (pv 0) (nomark _)) (pw_or1 (pt_not (pt_val (pe_callB (cr_all rfl) (by rfl) B.all boot_all (pa_cons (pe_lc (own := [("one", 2)]) rfl sc_is_position_of.nd (pi_tup (pv 1)) (blkOk_by (own := [("one", 2)]) (N := N_is_position_of) (sc := defScope s_is_position_of) (by decide +kernel)) (fun _ _ _ _ _ => pg_name (i := 2) sc_is_position_of.nd rfl (Or.inl rfl)) (fun _ _ _ _ _ => pts_nil) (fun _ _ _ _ _ => (pe_fn o_is_int (hr.mono (by decide)) (pa_cons (pv 2) (pa_cons pe_int (pa_cons (pe_op op_sub (pv 0) pe_int) pa_nil)))))) pa_nil)))))))) (pss_one (ps_ret pe_bl)) pss_nil)
      (pss_one (ps_ret (pe_cmpR op_eq (pe_lenSetT (by rfl) B.len (by rfl) B.set (pv 1)) (pv 0) (nomark _))))), ?_⟩
  have hl := perm_len hp
  refine q_when (b := false) (et_is (et_or (a := false) (et_not (a := true) (et_test (ev_isiT (ed_var rfl hy) rfl))) fun _ => et_or (a := false) (et_is (et_B (ev_op (ev_lenT (ed_var rfl hy)) (ev_var rfl) (rv_ne rfl))) ?_) fun _ => et_not (a := true) (et_test (ev_is (ev_all (bs := p.map fun _ => true) ?_) ?_))) rfl) (fun z => nomatch z) fun _ H1 e1 => ?_
  · simp [hl]
  · refine el_mapT (ed_var rfl hy) (by rw [List.length_map]; omega) (by rw [List.length_map, List.length_map, List.length_map]) (fun _ => rfl) fun i x d e H1 e1 hd he f => ?_
    obtain ⟨n, hn, rfl⟩ := tN_get hd
    obtain ⟨b, hb, rfl⟩ := map_get he
    obtain ⟨n', _, rfl⟩ := map_get hb
    have hx := fz_intI f
    subst hx
    have hlt : n < m := List.mem_range.mp (hp.subset (List.mem_of_getElem? hn))
    refine ed_is (ed_call (ea_v (ev_var rfl) (ea_v ev_c (ea_v (ev_op (ev_var rfl) ev_c rv_I0) ea_nil))) (pr_D ⟨_, _, _, rfl, rfl⟩)) ?_
    rw [decide_eq_true (show (0 : Int) ≤ (n : Int) by omega), decide_eq_true (show (n : Int) ≤ (m : Int) - 1 by omega)]
    rfl
  · simp
  · have e : tN p = .tuple ((p.map fun n : Nat => (n : Int)).map PyData.int) := by
      unfold tN
      rw [List.map_map]
      rfl
    have nd : (p.map fun n : Nat => (n : Int)).Nodup := List.Pairwise.map (fun n : Nat => (n : Int)) (fun a b h z => h (by omega)) (hp.nodup_iff.mpr List.nodup_range)
    refine s_ret (ev_is (ev_op (ev_lenSet (ns := p.map fun n : Nat => (n : Int)) (e ▸ ed_var rfl (fz_ex e1 hy)) (by rw [List.length_map]; omega) m fun l h1 h2 => ?_) (ev_var rfl) (rv_eq rfl)) ?_) fun H2 e2 => k _ H2 (e1.trans e2) fz_bl
    · rw [nodup_len h1 nd h2, List.length_map, hl]
    · rw [decide_eq_true rfl]
end
abbrev s_is_picture : Stmt := top 18
abbrev N_is_picture : List Str := ["value", "row", "one"]
theorem sc_is_picture : FnScope N_is_picture ["value"] (defScope s_is_picture) := ⟨rfl, rfl, rfl, by decide +kernel, rfl, by decide +kernel, by decide +kernel⟩
section
variable {P : Program} {w : World} {K : PySem.W.Frag} {mg : Str → Option Value} {base : Heap}
theorem ok_is_picture (B : Bt mg) (C : Cs mg) (o_is_int : Okd P w K mg base "is_int" ["value", "low", "high"] s_is_int 1 (spD K 3 rIsInt)) (d : DefIn K mg "is_picture" ["value"] s_is_picture) : Okd P w K mg base "is_picture" ["value"] s_is_picture 2 (spD K 1 rIsPic) := by
  refine Okd.mk d sc_is_picture (fun vs H Q E h => spD_len h) (fun f cdv A outer s H vs Q E hr h => ?_)
  obtain ⟨as, d, _, hv, ⟨m, M, rfl, hM, rfl⟩, k⟩ := h
  obtain ⟨y, rfl, hy⟩ := agl1 hv
  replace hy := agd hy
  obtain ⟨_, c_most_spots⟩ := C.most_spots
  obtain ⟨_, c_most_mark⟩ := C.most_mark
  refine ⟨_, (pss_cons (ps_if (PW.pt (pw_or (pt_not (pt_val (pe_callB call_isi (by rfl) B.isinstance boot_isinstance (pa_cons (pv 0) (pa_cons (pe_bltn (v := V.ty "tuple") (u := Value.type "tuple") (by rfl) B.tuple boot_tuple rfl) pa_nil))))) (pw_or1 (pt_not (pt_chain op_le op_le pe_int (pe_callB call_len_seq (by rfl) B.len boot_len (pa_cons (pv 0) pa_nil)) (pe_glob (v := .int 8) rfl c_most_spots ⟨_, rfl⟩)))))) (pss_one (ps_ret pe_bl)) pss_nil)
      (pss_cons (ps_for PassesOwn.never rfl (pi_tup (pv 0)) (pg_name (i := 1) sc_is_picture.nd rfl (Or.inl rfl)) (pss_one (ps_if (PW.pt (pw_or (pt_not (pt_val (pe_callB call_isi (by rfl) B.isinstance boot_isinstance (pa_cons (pv 1) (pa_cons (pe_bltn (v := V.ty "tuple") (u := Value.type "tuple") (by rfl) B.tuple boot_tuple rfl) pa_nil))))) (pw_or (pt_cmpR op_ne (pe_callB call_len_seq (by rfl) B.len boot_len (pa_cons (pv 1) pa_nil)) (pe_callB call_len_seq (by rfl) B.len boot_len (pa_cons (pv 0) pa_nil)) (nomark _)) (pw_or1 (pt_not (pt_val (pe_callB (cr_all rfl) (by rfl) B.all boot_all (pa_cons (pe_lc (own := [("one", 2)]) rfl sc_is_picture.nd (pi_tup (pv 1)) (blkOk_by (own := [("one", 2)]) (N := N_is_picture) (sc := defScope s_is_picture) (by decide +kernel)) (fun _ _ _ _ _ => pg_name (i := 2) sc_is_picture.nd rfl (Or.inl rfl)) (fun _ _ _ _ _ => pts_nil) (fun _ _ _ _ _ => (pe_fn o_is_int (hr.mono (by decide)) (pa_cons (pv 2) (pa_cons pe_int (pa_cons (pe_glob (v := .int 9) rfl c_most_mark ⟨_, rfl⟩) pa_nil)))))) pa_nil)))))))) (pss_one (ps_ret pe_bl)) pss_nil)))
      (pss_one (ps_ret pe_bl)))), ?_⟩
  have hm1 := hM.pos
  have hm2 := hM.le
  have hl := hM.len
  refine q_when (b := false) (et_is (et_or (a := false) (et_not (a := true) (et_test (ev_isiT (ed_var rfl hy) rfl))) fun _ => et_not (a := true) (et_is (et_test (ev_chain ev_c (ev_lenT (ed_var rfl hy)) ev_c)) ?_)) rfl) (fun z => nomatch z) fun _ H1 e1 => ?_
  · rw [List.length_map, hl]
    simp
    omega
  · refine q_forTd (ed_var rfl (fz_ex e1 hy)) fun H2 e2 => ?_
    refine ⟨fun i σ' H' => (∃ z, σ' = (start N_is_picture [y]).set 1 z) ∧ Ex H2 H', ⟨⟨none, rfl⟩, Ex.refl _⟩, fun i σ' H' p => tex_of p.2, ?_, ?_⟩
    · rintro i x d _ H' hd hx ⟨⟨z, rfl⟩, e3⟩
      obtain ⟨r, hr, rfl⟩ := map_get hd
      have hrm := List.mem_of_getElem? hr
      have hrl := hM.row r hrm
      show tIfS _ _ _ _ ((start N_is_picture [y]).set 1 (some x)) H'
      have hy' := fz_ex ((e1.trans e2).trans e3) hy
      refine s_when (b := false) (et_is (et_or (a := false) (et_not (a := true) (et_test (ev_isiT (ed_var rfl hx) rfl))) fun _ => et_or (a := false) (et_is (et_B (ev_op (ev_lenT (ed_var rfl hx)) (ev_lenT (ed_var rfl hy')) (rv_ne rfl))) ?_) fun _ => et_not (a := true) (et_test (ev_is (ev_all (bs := r.map fun _ => true) ?_) ?_))) rfl) (fun z => nomatch z) fun _ H4 e4 => ⟨⟨_, rfl⟩, e3.trans e4⟩
      · simp [hl, hrl]
      · refine el_mapT (ed_var rfl hx) (by rw [List.length_map]; omega) (by rw [List.length_map, List.length_map, List.length_map]) (fun _ => rfl) fun i x d e H1 e1 hd he f => ?_
        obtain ⟨n, hn, rfl⟩ := tN_get hd
        obtain ⟨b, hb, rfl⟩ := map_get he
        obtain ⟨n', _, rfl⟩ := map_get hb
        have hx := fz_intI f
        subst hx
        have hlt := hM.mark r hrm n (List.mem_of_getElem? hn)
        refine ed_is (ed_call (ea_v (ev_var rfl) (ea_v ev_c (ea_v ev_c ea_nil))) (pr_D ⟨_, _, _, rfl, rfl⟩)) ?_
        rw [decide_eq_true (show (0 : Int) ≤ (n : Int) by omega), decide_eq_true (show (n : Int) ≤ 9 by omega)]
        rfl
      · simp
    · rintro _ H' ⟨_, e3⟩
      exact s_ret ev_c fun H4 e4 => k _ H4 (((e1.trans e2).trans e3).trans e4) fz_bl
end
abbrev s_look_at_picture : Stmt := top 19
abbrev N_look_at_picture : List Str := ["picture"]
theorem sc_look_at_picture : FnScope N_look_at_picture ["picture"] (defScope s_look_at_picture) := ⟨rfl, rfl, rfl, by decide +kernel, rfl, by decide +kernel, by decide +kernel⟩
section
variable {P : Program} {w : World} {K : PySem.W.Frag} {mg : Str → Option Value} {base : Heap}
theorem ok_look_at_picture (B : Bt mg) (o_is_picture : Okd P w K mg base "is_picture" ["value"] s_is_picture 2 (spD K 1 rIsPic)) (d : DefIn K mg "look_at_picture" ["picture"] s_look_at_picture) : Okd P w K mg base "look_at_picture" ["picture"] s_look_at_picture 3 (spD K 1 rLook) := by
  refine Okd.mk d sc_look_at_picture (fun vs H Q E h => spD_len h) (fun f cdv A outer s H vs Q E hr h => ?_)
  obtain ⟨as, d, _, hv, ⟨m, M, rfl, hM, rfl⟩, k⟩ := h
  obtain ⟨y, rfl, hy⟩ := agl1 hv
  replace hy := agd hy
  refine ⟨_, (pss_one (ps_if (pt_not (pt_val (pe_fn o_is_picture (hr.mono (by decide)) (pa_cons (pv 0) pa_nil)))) (pss_one ps_never) pss_nil)), ?_⟩
  refine s_when (b := false) (et_not (a := true) (et_test (ev_bool (ed_call (ea_d (ed_var rfl hy) ea_nil) (pr_D ⟨m, M, rfl, hM, rfl⟩))))) (fun z => nomatch z) fun _ H1 e1 => k _ H1 e1 fz_non
end
abbrev s_told_moved : Stmt := top 20
abbrev N_told_moved : List Str := ["picture", "position", "row", "found", "place", "other", "mark"]
theorem sc_told_moved : FnScope N_told_moved ["picture", "position"] (defScope s_told_moved) := ⟨rfl, rfl, rfl, by decide +kernel, rfl, by decide +kernel, by decide +kernel⟩
section
variable {P : Program} {w : World} {K : PySem.W.Frag} {mg : Str → Option Value} {base : Heap}
theorem ok_told_moved (B : Bt mg) (d : DefIn K mg "told_moved" ["picture", "position"] s_told_moved) : Okd P w K mg base "told_moved" ["picture", "position"] s_told_moved 1 (spD K 2 rMoved) := by
  refine Okd.mk d sc_told_moved (fun vs H Q E h => spD_len h) (fun f cdv A outer s H vs Q E hr h => ?_)
  obtain ⟨as, d, _, hv, ⟨m, M, p, rfl, hM, hm, hp, rfl⟩, k⟩ := h
  obtain ⟨y, z, rfl, hy, hz⟩ := agl2 hv
  replace hy := agd hy
  replace hz := agd hz
  refine ⟨_, (pss_cons (ps_setLc (i := 3) (own := [("row", 2)]) rfl sc_told_moved.nd rfl rfl (sw_true rfl rfl rfl (by decide +kernel)) (pi_tup (pv 0)) (blkOk_by (own := [("row", 2)]) (N := N_told_moved) (sc := defScope s_told_moved) (by decide +kernel)) (fun _ _ _ _ _ => pg_name (i := 2) sc_told_moved.nd rfl (Or.inl rfl)) (fun _ _ _ _ _ => pts_nil) (fun _ _ _ _ _ => (pe_op op_rep (pe_lst (pa_cons pe_int pa_nil)) (pe_callB (cK (K := K) (r := rLenS) call_len_seq rfl) (by rfl) B.len boot_len (pa_cons (pv 0) pa_nil)))))
      (pss_cons (ps_for PassesOwn.never rfl (pi_enumT (by rfl) B.enumerate (pa_cons (pv 0) pa_nil)) (pg_tup (by rfl) (pgs_cons (pg_name (i := 4) sc_told_moved.nd rfl (Or.inl rfl)) (pgs_cons (pg_name (i := 2) sc_told_moved.nd rfl (Or.inl rfl)) pgs_nil))) (pss_one (ps_for PassesOwn.never rfl (pi_enumT (by rfl) B.enumerate (pa_cons (pv 2) pa_nil)) (pg_tup (by rfl) (pgs_cons (pg_name (i := 5) sc_told_moved.nd rfl (Or.inl rfl)) (pgs_cons (pg_name (i := 6) sc_told_moved.nd rfl (Or.inl rfl)) pgs_nil))) (pss_one (ps_asg (pv 6) (pg_sub (pe_ix ix_list (pv 3) (pe_ix ix_tup (pv 1) (pv 4) (fun _ _ => rfl)) (fun _ _ => rfl)) (pe_ix ix_tup (pv 1) (pv 5) (fun _ _ => rfl)) set_list))))))
      (pss_one (ps_ret (pe_callTy call_tuple_of (by rfl) B.tuple boot_tuple (pa_cons (pe_lc (own := [("row", 2)]) rfl sc_told_moved.nd (pi_list (pv 3)) (blkOk_by (own := [("row", 2)]) (N := N_told_moved) (sc := defScope s_told_moved) (by decide +kernel)) (fun _ _ _ _ _ => pg_name (i := 2) sc_told_moved.nd rfl (Or.inl rfl)) (fun _ _ _ _ _ => pts_nil) (fun _ _ _ _ _ => (pe_callTy (cK (K := K) (r := rTupOf) call_tuple_of rfl) (by rfl) B.tuple boot_tuple (pa_cons (pv 2) pa_nil)))) pa_nil)))))), ?_⟩
  have hl := hM.len
  have hpl := perm_len hp
  have hlen : ∀ {H1 : Hp} {σ : L2.St}, Ex H H1 → σ[0]? = some (some y) → Ev (tCB (rLenS K) (tCons (tVar 0) tNil)) σ H1 (.int (m : Int)) := fun e h0 => ev_is (ev_lenT (ed_var h0 (fz_ex e hy))) (by rw [List.length_map, hl])
  refine q_asgR (rss := List.replicate m (List.replicate m (.int 0))) (elr_is (er_lcTd (out := fun i => List.replicate i (List.replicate m (.int 0))) (ed_var rfl hy) rfl (fun i hi => ?_) (fun _ => rfl) fun i x d H1 e1 hd f => ⟨_, el_rep (WT.el_lst (ea_d (ed_ev ev_c fz_int) ea_nil) (by decide)) (hlen e1 rfl) (by omega), ?_⟩) ?_) fun q qs H1 hq e1 R => ?_
  · rw [List.length_replicate]
    rw [List.length_map] at hi
    omega
  · rw [List.replicate_succ']
  · rw [List.length_map, hl]
  · have hqn : ∀ x ∈ q :: qs, H x = none := hq
    -- after n rows
    let In (F : List (List Nat)) (n j : Nat) : Prop := Sq m F ∧ ∀ a b c d, (a < n ∨ (a = n ∧ b < j)) → p[a]? = some c → p[b]? = some d → at2 F c d = at2 M a b
    have hp1 : ∀ {H1 : Hp}, TEx H H1 → Fz K H1 (tN p) z := fun e => Fz.mono e _ _ hz
    refine q_forEn (ed_var rfl (fz_ex e1 hy)) fun H2 e2 => ⟨fun n σ' H' => (∃ z2 z4 z5 z6, σ' = [some y, some z, z2, some (.ref q), z4, z5, z6]) ∧ TEx H2 H' ∧ Ex H H' ∧ ∃ F, RowsP K H' q qs (rN F) ∧ In F n 0,
      ⟨⟨none, none, none, none, rfl⟩, TEx.refl _, e1.trans e2, List.replicate m (List.replicate m 0), ?_, sq_zero, fun a b c d h => ?_⟩, fun n σ' H' h => h.2.1, ?_, ?_⟩
    · have e : rN (List.replicate m (List.replicate m 0)) = List.replicate m (List.replicate m (.int 0)) := by
        unfold rN rNs
        rw [List.map_replicate, List.map_replicate]
        rfl
      rw [e]
      exact R.ex e2
    · omega
    · rintro n x d σ' H' H'' hd eH hx ⟨⟨z2, z4, z5, z6, rfl⟩, tx, eX, F, RF, sqF, inv⟩
      obtain ⟨r, hr, rfl⟩ := map_get hd
      have hrl := hM.row r (List.mem_of_getElem? hr)
      have hn : n < m := by
        have := (List.getElem?_eq_some_iff.mp hr).1
        omega
      obtain ⟨pn, hpn⟩ : ∃ a, p[n]? = some a := ⟨_, List.getElem?_eq_getElem (by omega)⟩
      refine s_forEn (ed_var rfl hx) fun H3 e3 => ⟨fun j σ' H' => (∃ z5 z6, σ' = [some y, some z, some x, some (.ref q), some (.int (n : Int)), z5, z6]) ∧ TEx H3 H' ∧ Ex H H' ∧ ∃ F, RowsP K H' q qs (rN F) ∧ In F n j,
        ⟨⟨z5, z6, rfl⟩, TEx.refl _, (eX.trans eH).trans e3, F, RF.ex (eH.trans e3), sqF, inv⟩, fun n σ' H' h => h.2.1, ?_, ?_⟩
      · rintro j x2 d2 σ' H4 H5 hd2 eH5 hx2 ⟨⟨z5, z6, rfl⟩, tx4, eX4, F4, RF4, sqF4, inv4⟩
        obtain ⟨mk, hmk, rfl⟩ := tN_get hd2
        have hj : j < m := by
          have := (List.getElem?_eq_some_iff.mp hmk).1
          omega
        obtain ⟨pj, hpj⟩ : ∃ a, p[j]? = some a := ⟨_, List.getElem?_eq_getElem (by omega)⟩
        have hzz : Fz K H5 (tN p) z := hp1 (tex_of (eX4.trans eH5))
        have gp : ∀ {i a : Nat}, p[i]? = some a → (p.map fun n : Nat => PyData.int (n : Int))[i]? = some (.int (a : Int)) := fun h => by
          rw [List.getElem?_map, h]
          rfl
        obtain ⟨row, hrow, hrowl, _⟩ := sqF4.get (perm_lt hp hpn)
        refine s_setRow (RF4.ex eH5) (ed_var rfl hx2) (ev_var rfl) (ev_int (ed_ixT (ed_var rfl hzz) (ev_var rfl) (gp hpn))) (ev_int (ed_ixT (ed_var rfl hzz) (ev_var rfl) (gp hpj))) (rN_get hrow) (by unfold rNs; rw [List.length_map, hrowl]; exact perm_lt hp hpj) fun H6 q' xs v hq' e6 h6 R6 => ?_
        refine ⟨⟨_, _, rfl⟩, (tx4.trans (tex_of (eH5.trans e6))).trans (tex_lst h6), Ex.mut ((eX4.trans eH5).trans e6) (hqn q' (List.mem_cons_of_mem _ hq')), F4.set pn (row.set pj mk), ?_, sq_set sqF4 hrow, fun a b c d h hc hd5 => ?_⟩
        · rw [← rN_set]
          exact R6
        · rw [at2_set sqF4 hrow (perm_lt hp hpj)]
          by_cases hcd : c = pn ∧ d = pj
          · rw [if_pos hcd]
            have ea : a = n := by rw [← idx_of_get (perm_nd hp) hc, hcd.1, idx_of_get (perm_nd hp) hpn]
            have eb : b = j := by rw [← idx_of_get (perm_nd hp) hd5, hcd.2, idx_of_get (perm_nd hp) hpj]
            subst ea eb
            have z1 := hM.at hr hj
            rw [hmk] at z1
            exact Option.some.inj z1
          · rw [if_neg hcd]
            refine inv4 a b c d ?_ hc hd5
            rcases h with h | ⟨h1, h2⟩
            · exact .inl h
            · refine .inr ⟨h1, ?_⟩
              rcases Nat.lt_or_eq_of_le (Nat.le_of_lt_succ h2) with h3 | h3
              · exact h3
              · subst h1 h3
                rw [hpn] at hc
                rw [hpj] at hd5
                exact absurd ⟨(Option.some.inj hc).symm, (Option.some.inj hd5).symm⟩ hcd
      · rintro σ' H4 ⟨⟨z5, z6, rfl⟩, tx4, eX4, F4, RF4, sqF4, inv4⟩
        refine ⟨⟨_, _, _, _, rfl⟩, (tx.trans (tex_of (eH.trans e3))).trans tx4, eX4, F4, RF4, sqF4, fun a b c d h hc hd => inv4 a b c d ?_ hc hd⟩
        rcases h with h | h
        · rcases Nat.lt_or_eq_of_le (Nat.le_of_lt_succ h) with h3 | h3
          · exact .inl h3
          · refine .inr ⟨h3, ?_⟩
            have := (List.getElem?_eq_some_iff.mp hd).1
            rw [List.length_map]
            omega
        · omega
    · rintro σ' H' ⟨⟨z2, z4, z5, z6, rfl⟩, tx, eX, F, RF, sqF, inv⟩
      have hF : movedN m M p = F := moved_of hp sqF fun i j a b ha hb => inv i j a b (.inl (by
        have := (List.getElem?_eq_some_iff.mp ha).1
        rw [List.length_map]
        omega)) ha hb
      have hFl : (rN F).length = m := by
        unfold rN
        rw [List.length_map, sqF.len]
      refine s_retD (ed_tupOf (el_is (el_lcRows (out := fun i => ((rN F).map PyData.tuple).take i) (ev_var rfl) RF rfl (fun i hi => ?_) (fun _ => rfl) fun i q2 xs r H4 e4 hr hx hf => ⟨.tuple r, ed_tupOfL (ev_var rfl) (sq_of hx) hf, take_get (by rw [List.getElem?_map, hr]; rfl)⟩) (by rw [List.take_of_length_le (by rw [List.length_map]; exact Nat.le_refl _)]))) fun v H4 e4 f => k v H4 (eX.trans e4) ?_
      · rw [List.length_take]
        omega
      · rw [hF, tNN_rN]
        exact f
end
abbrev s_marks_with : Stmt := top 23
abbrev N_marks_with : List Str := ["picture", "chosen", "place", "found", "other"]
theorem sc_marks_with : FnScope N_marks_with ["picture", "chosen", "place"] (defScope s_marks_with) := ⟨rfl, rfl, rfl, by decide +kernel, rfl, by decide +kernel, by decide +kernel⟩
section
variable {P : Program} {w : World} {K : PySem.W.Frag} {mg : Str → Option Value} {base : Heap}
theorem ok_marks (B : Bt mg) (d : DefIn K mg "marks_with" ["picture", "chosen", "place"] s_marks_with) : Okd P w K mg base "marks_with" ["picture", "chosen", "place"] s_marks_with 1 (spD K 3 rMarks) := by
  refine Okd.mk d sc_marks_with (fun vs H Q E h => spD_len h) (fun f cdv A outer s H vs Q E hr h => ?_)
  obtain ⟨as, d, _, hv, ⟨m, p, M, o, rfl, hM, hm, ho, hp, hol, rfl⟩, k⟩ := h
  obtain ⟨y, z, _, rfl, hy, hz, rfl⟩ := agl3 hv
  replace hy := agd hy
  replace hz := agd hz
  refine ⟨_, (pss_cons (ps_set (i := 3) sc_marks_with.nd rfl (Or.inl rfl) (pe_lst pa_nil))
      (pss_cons (ps_for PassesOwn.never rfl (pi_tup (pv 1)) (pg_name (i := 4) sc_marks_with.nd rfl (Or.inl rfl)) (pss_one (ps_expr (pe_bm PySem.F.plainAttrs_list PySem.F.slot_list_extend PySem.F.type_list_extend mt_extend (pv 3) (pa_cons (pe_lst (pa_cons (pe_ix ix_tup (pe_ix ix_tup (pv 0) (pv 2) (fun _ _ => rfl)) (pv 4) (fun _ _ => rfl)) (pa_cons (pe_ix ix_tup (pe_ix ix_tup (pv 0) (pv 4) (fun _ _ => rfl)) (pv 2) (fun _ _ => rfl)) pa_nil))) pa_nil)))))
      (pss_one (ps_ret (pe_tup (StX.pa_star (pv 3) (pa_cons (pe_ix ix_tup (pe_ix ix_tup (pv 0) (pv 2) (fun _ _ => rfl)) (pv 2) (fun _ _ => rfl)) pa_nil))))))), ?_⟩
  refine q_asgL (Evl.el_lst Evl.ea_nil (by decide)) fun l H1 hl e1 h1 => ?_
  refine q_forTd (ed_var rfl (fz_ex e1 hz)) fun H2 e2 => ⟨fun i σ' H' => (∃ z4, σ' = [some y, some z, some (.int (p : Int)), some (.ref l), z4]) ∧ TEx H2 H' ∧ Ex H H' ∧ H' l = some (.lst (vN ((o.take i).flatMap fun c => [at2 M p c, at2 M c p]))), ⟨⟨none, rfl⟩, TEx.refl _, e1.trans e2, e2 _ _ h1⟩, fun i σ' H' h => h.2.1, ?_, ?_⟩
  · rintro i x d σ' H' hd hx ⟨⟨z4, rfl⟩, tx, eX, hl'⟩
    obtain ⟨c, hc, rfl⟩ := tN_get hd
    have hxx := fz_intI hx
    subst hxx
    have hck := ho c (List.mem_of_getElem? hc)
    show tDrop _ _ [some y, some z, some (.int (p : Int)), some (.ref l), some (.int (c : Int))] H'
    have hy' := fz_ex eX hy
    have hil := (List.getElem?_eq_some_iff.mp hc).1
    have hsz : ((o.take i).flatMap fun c => [at2 M p c, at2 M c p]).length ≤ 2 * i := by
      rw [List.length_flatMap]
      have : ((o.take i).map fun c => ([at2 M p c, at2 M c p] : List Nat).length) = List.replicate (o.take i).length 2 := by
        rw [List.eq_replicate_iff]
        exact ⟨by rw [List.length_map], fun b hb => by obtain ⟨a, _, rfl⟩ := List.mem_map.mp hb; rfl⟩
      rw [this, List.sum_replicate_nat, List.length_take]
      have : min i o.length ≤ i := Nat.min_le_left _ _
      omega
    refine s_extE (ds := [.int ((at2 M p c : Nat) : Int), .int ((at2 M c p : Nat) : Int)]) hl' (ev_var rfl) (WT.el_lst (ea_d (ed_at2 hM (ed_var rfl hy') (ev_var rfl) (ev_var rfl) hp hck) (ea_d (ed_at2 hM (ed_var rfl hy') (ev_var rfl) (ev_var rfl) hck hp) ea_nil)) (show 2 ≤ 100000 by decide)) (by rw [vN_len]; show _ + 2 ≤ _; omega) fun zs H3 e3 f => ?_
    have hzs : zs = vN [at2 M p c, at2 M c p] := fzl_nats.mp f
    subst hzs
    refine ⟨⟨_, rfl⟩, (tx.trans (tex_of e3)).trans (tex_lst (e3 _ _ hl')), (eX.trans e3).mut hl, ?_⟩
    rw [take_get hc, List.flatMap_append]
    unfold vN
    rw [List.map_append]
    exact upd_same
  · rintro σ' H' ⟨⟨z4, rfl⟩, tx, eX, hl'⟩
    rw [List.length_map, List.take_of_length_le (Nat.le_refl _)] at hl'
    have hlen := tells_len M o p
    refine s_retD (ed_tup (ds := (tells M o p).map fun n : Nat => PyData.int (n : Int)) (ea_is (ea_starL (ev_var rfl) (sq_of hl') (fzl_nats.mpr rfl) (ea_d (ed_at2 hM (ed_var rfl (fz_ex eX hy)) (ev_var rfl) (ev_var rfl) hp hp) ea_nil)) ?_) (by rw [List.length_map]; omega)) fun v H3 e3 f => k v H3 (eX.trans e3) f
    unfold tells
    rw [List.map_append, List.map_append]
    rfl
end
abbrev s_least_orders : Stmt := top 24
abbrev N_least_orders : List Str := ["picture", "code", "orders", "lap", "best", "later", "chosen", "place", "told"]
theorem sc_least_orders : FnScope N_least_orders ["picture"] (defScope s_least_orders) := ⟨rfl, rfl, rfl, by decide +kernel, rfl, by decide +kernel, by decide +kernel⟩
section
variable {P : Program} {w : World} {K : PySem.W.Frag} {mg : Str → Option Value} {base : Heap}
theorem ok_orders (B : Bt mg) (o_marks_with : Okd P w K mg base "marks_with" ["picture", "chosen", "place"] s_marks_with 1 (spD K 3 rMarks)) (d : DefIn K mg "least_orders" ["picture"] s_least_orders) : Okd P w K mg base "least_orders" ["picture"] s_least_orders 2 (spOrders K) := by
  refine Okd.mk d sc_least_orders (fun vs H Q E h => ?_) (fun f cdv A outer s H vs Q E hr h => ?_)
  · obtain ⟨k, M, y, rfl, _⟩ := h
    rfl
  · obtain ⟨m, M, y, rfl, hM, hm, hy, k⟩ := h
    refine ⟨_, (pss_cons (ps_par (i := 1) (j := 2) (by rfl) sc_least_orders.nd rfl rfl (by decide) rfl rfl (pa_cons (pe_tup pa_nil) (pa_cons (pe_lst (pa_cons (pe_tup pa_nil) pa_nil)) pa_nil)) (by rfl))
      (pss_cons (ps_for PassesOwn.never rfl (pi_range1 (by rfl) B.range (pa_cons (pe_callB call_len_seq (by rfl) B.len boot_len (pa_cons (pv 0) pa_nil)) pa_nil)) (pg_name (i := 3) sc_least_orders.nd rfl (Or.inl rfl)) (pss_cons (ps_par (i := 4) (j := 5) (by rfl) sc_least_orders.nd rfl rfl (by decide) rfl rfl (pa_cons pe_non (pa_cons (pe_lst pa_nil) pa_nil)) (by rfl))
        (pss_cons (ps_for PassesOwn.never rfl (pi_list (pv 2)) (pg_name (i := 6) sc_least_orders.nd rfl (Or.inr rfl)) (pss_one (ps_for PassesOwn.never rfl (pi_list (pe_lc (own := [("place", 7)]) rfl sc_least_orders.nd (pi_range1 (by rfl) B.range (pa_cons (pe_callB call_len_seq (by rfl) B.len boot_len (pa_cons (pv 0) pa_nil)) pa_nil)) (blkOk_by (own := [("place", 7)]) (N := N_least_orders) (sc := defScope s_least_orders) (by decide +kernel)) (fun _ _ _ _ _ => pg_name (i := 7) sc_least_orders.nd rfl (Or.inl rfl)) (fun _ _ _ _ _ => (pts_one (pt_cmpR (oK (K := K) (r := (fun K => rIn K true)) op_notIn_seq rfl) (pv 7) (pv 6) (by rfl)))) (fun _ _ _ _ _ => (pv 7)))) (pg_name (i := 7) sc_least_orders.nd rfl (Or.inl rfl)) (pss_cons (ps_set (i := 8) sc_least_orders.nd rfl (Or.inl rfl) (pe_fn o_marks_with (hr.mono (by decide)) (pa_cons (pv 0) (pa_cons (pv 6) (pa_cons (pv 7) pa_nil)))))
            (pss_cons (ps_if (PW.pt (pw_or (pt_cmpR op_isN (pv 4) pe_non (nomark _)) (pw_or1 (pt_cmpR (op_ltT (room0 hr)) (pv 8) (pv 4) (nomark _))))) (pss_one (ps_par (i := 4) (j := 5) (by rfl) sc_least_orders.nd rfl rfl (by decide) rfl rfl (pa_cons (pv 8) (pa_cons (pe_lst pa_nil) pa_nil)) (by rfl))) pss_nil)
            (pss_one (ps_if (pt_cmpR (op_eqD (room64 hr)) (pv 8) (pv 4) (nomark _)) (pss_one (ps_expr (pe_bm PySem.F.plainAttrs_list PySem.F.slot_list_append PySem.F.type_list_append mt_append (pv 5) (pa_cons (pe_tup (StX.pa_star (pv 6) (pa_cons (pv 7) pa_nil))) pa_nil)))) pss_nil)))))))
        (pss_one (ps_par (i := 1) (j := 2) (by rfl) sc_least_orders.nd rfl rfl (by decide) rfl rfl (pa_cons (pe_tup (StX.pa_star (pv 1) (StX.pa_star (pv 4) pa_nil))) (pa_cons (pv 5) pa_nil)) (by rfl))))))
      (pss_one (ps_ret (pe_tup (pa_cons (pv 1) (pa_cons (pv 2) pa_nil))))))), ?_⟩
    have hl := hM.len
    have hlen : ∀ {σ : L2.St} {H1 : Hp}, Ex H H1 → σ[0]? = some (some y) → Ev (tCB (rLenS K) (tCons (tVar 0) tNil)) σ H1 (.int (m : Int)) := fun e h0 => ev_is (ev_lenT (ed_var h0 (fz_ex e hy))) (by rw [List.length_map, hl])
    refine q_parM (c_cons (ed_tup (K := K) (ds := []) ea_nil (by decide) H (Ex.refl _) _ fun v0 H1 e1 f1 => c_cons (WT.el_lst (K := K) (ds := [tN []]) (ea_d (ed_tup (ds := []) ea_nil (by decide)) ea_nil) (by decide) H1 (Ex.refl _) _ fun p0 xs0 H2 hp0 e2 h2 f2 => c_nil ⟨_, _, rfl, ?_⟩)))
    refine q_forR1 (n := (m : Int)) (Evl.ea_cons (hlen (e1.trans e2) rfl) Evl.ea_nil) ⟨by omega, by omega⟩ (fun t σ' H' => (∃ vc po xs z3 z4 z5 z6 z7 z8, σ' = [some y, some vc, some (.ref po), z3, z4, z5, z6, z7, z8] ∧ Fz K H' (tN (laps m M t).1) vc ∧ H' po = some (.lst xs) ∧ FzL K H' ((laps m M t).2.map tN) xs) ∧ Ex H H') (fun H3 e3 => ?_) (fun t σ' H' ht h => ?_) (fun σ' H' h => ?_)
    · exact ⟨⟨v0, p0, xs0, none, none, none, none, none, none, rfl, fz_ex (e2.trans e3) f1, e3 _ _ h2, fzl_ex e3 f2⟩, (e1.trans e2).trans e3⟩
    · obtain ⟨⟨vc, po, xs, z3, z4, z5, z6, z7, z8, rfl, fc, hpo, fx⟩, eX⟩ := h
      have htm : t < m := by omega
      obtain ⟨lok1, lok2⟩ := laps_ok m M t (by omega)
      have lsz := laps_len hm M t
      have psz := pow5 (t := t) (by omega)
      have osz := cand_len hm M (laps m M t).2
      generalize hos : (laps m M t).2 = os at lok1 lok2 lsz fx osz
      refine q_parM (c_cons (ev_c H' (Ex.refl _) _ fun G1 g1 => c_cons (Evl.el_lst Evl.ea_nil (by decide) G1 (Ex.refl _) _ fun la0 G2 hla0 g2 hG2 => c_nil ⟨_, _, rfl, ?_⟩)))
      let St : (Option V → Option V → Option V → Addr → Prop) → Option (List Nat) × List (List Nat) → L2.St → Hp → Prop := fun C s σ2 H2 =>
        (∃ vb la ls z6 z7 z8, C z6 z7 z8 la ∧ σ2 = [some y, some vc, some (.ref po), some (.int (t : Int)), some vb, some (.ref la), z6, z7, z8] ∧ Fz K H2 (bD s.1) vb ∧ H' la = none ∧ H2 la = some (.lst ls) ∧ FzL K H2 (s.2.map tN) ls) ∧ Ex H' H2
      have hxl := fzl_len fx
      rw [List.length_map] at hxl
      refine q_forL (ev_var rfl) (sq_of (g2 _ _ (g1 _ _ hpo))) (fun i => St (fun _ _ _ _ => True) (scan (cand m M (os.take i)))) (fun G3 g3 => ?_) (fun i σ2 H2 _ h => sq_of (h.2 _ _ hpo)) (fun i x σ2 H2 hx h => ?_) (fun σ2 H2 h => ?_)
      · exact ⟨⟨.non, la0, [], z6, z7, z8, trivial, rfl, fz_non, fresh_back g1 hla0, g3 _ _ hG2, fzl_nil⟩, (g1.trans g2).trans g3⟩
      · obtain ⟨⟨vb, la, ls, z6, z7, z8, _, rfl, fb, hla, hls, fl⟩, eX2⟩ := h
        obtain ⟨d, hd, fo⟩ := fzl_getV fx hx
        obtain ⟨o, ho, rfl⟩ := map_get hd
        obtain ⟨O, _⟩ := lok2 o (List.mem_of_getElem? ho)
        have hil := (List.getElem?_eq_some_iff.mp ho).1
        have hcsz := cand_len hm M (os.take i)
        have htk : (os.take i).length ≤ i := by
          rw [List.length_take]
          exact Nat.min_le_left _ _
        have tol : ∀ (n : Nat), decide ((n : Int) ∈ o.map fun n : Nat => (n : Int)) = decide (n ∈ o) := fun n => by
          rw [decide_eq_decide, List.mem_map]
          constructor
          · rintro ⟨a, ha, e⟩
            have : a = n := by omega
            exact this ▸ ha
          · exact fun h => ⟨n, h, rfl⟩
        have eo : tN o = .tuple ((o.map fun n : Nat => (n : Int)).map PyData.int) := by
          unfold tN
          rw [List.map_map]
          rfl
        have eHX : Ex H H2 := eX.trans eX2
        refine s_forNL (xs := vN (rest m o)) (evl_el (K := K) (el_filtR (fun p => !decide (p ∈ o)) (fun p => .int (p : Int)) (Evl.ea_cons (hlen eHX rfl) Evl.ea_nil) (by omega) (fun _ => rfl) fun i H5 e5 hi => ⟨et_is (et_test (ev_inT (neg := true) (ev_var rfl) (eo ▸ ed_var rfl (fz_ex (eX2.trans e5) fo)))) (by rw [if_pos rfl, tol]), fun _ => ed_ev (ev_var rfl) fz_int⟩) fun H5 xs f => fzl_nats.mp f)
          (fun p j σ3 H3 => St (fun z6 _ _ la => z6 = some x ∧ p ≠ la) (scan (cand m M (os.take i) ++ (cand1 m M o).take j)) σ3 H3 ∧ H3 p = some (.lst (vN (rest m o)))) (fun p H3 hp e3 h3 => ?_) (fun p j σ3 H3 _ h => sq_of h.2) (fun p j x2 σ3 H3 hx2 h => ?_) (fun p σ3 H3 h => ?_)
        · refine ⟨⟨⟨vb, la, ls, some x, z7, z8, ⟨rfl, fun z => ?_⟩, rfl, ?_, hla, e3 _ _ hls, ?_⟩, eX2.trans e3⟩, h3⟩
          · rw [z, hls] at hp
            cases hp
          · rw [List.take_zero, List.append_nil]
            exact fz_ex e3 fb
          · rw [List.take_zero, List.append_nil]
            exact fzl_ex e3 fl
        · obtain ⟨⟨⟨vb, la, ls, _, z7, z8, ⟨rfl, hpla⟩, rfl, fb, hla, hls, fl⟩, eX3⟩, hp3⟩ := h
          rw [vN_get] at hx2
          obtain ⟨pl, hpl, rfl⟩ : ∃ pl, (rest m o)[j]? = some pl ∧ x2 = .int (pl : Int) := by
            cases z : (rest m o)[j]? with
            | none => rw [z] at hx2; cases hx2
            | some a => rw [z] at hx2; exact ⟨a, rfl, (Option.some.inj hx2).symm⟩
          obtain ⟨hplm, hplo⟩ := mem_rest.mp (List.mem_of_getElem? hpl)
          have hc : (cand1 m M o)[j]? = some (tells M o pl, o ++ [pl]) := by
            unfold cand1
            rw [List.getElem?_map, hpl]
            rfl
          have hjl := (List.getElem?_eq_some_iff.mp hc).1
          have hrl : (cand1 m M o).length ≤ m := by
            unfold cand1
            rw [List.length_map]
            exact rest_len m o
          have hseen : (cand m M (os.take i) ++ (cand1 m M o).take j).length ≤ 20000 := by
            rw [List.length_append, List.length_take]
            omega
          have hsc := scan_len (cand m M (os.take i) ++ (cand1 m M o).take j)
          rw [take_get hc, ← List.append_assoc, scan_snoc]
          generalize scan (cand m M (os.take i) ++ (cand1 m M o).take j) = s at fb fl hsc
          refine q_asgD (ed_call (ea_d (ed_var rfl (fz_ex (eX.trans eX3) hy)) (ea_d (ed_var rfl (fz_ex eX3 fo)) (ea_v (ev_var rfl) ea_nil))) (pr_D ⟨m, pl, M, o, rfl, hM, hm, O.lt, hplm, by rw [O.len]; omega, rfl⟩)) fun vt H4 e4 ft => ?_
          refine q_whenX (b := match s.1 with | none => true | some b => ltN (tells M o pl) b) (fun σ2 H2 => St (fun z6 z7 z8 la => z6 = some x ∧ z7 = some (.int (pl : Int)) ∧ z8 = some vt ∧ p ≠ la) (pre1 s (tells M o pl, o ++ [pl])) σ2 H2 ∧ H2 p = some (.lst (vN (rest m o))) ∧ Fz K H2 (tN (tells M o pl)) vt) ?_ (fun hb H5 e5 Nx hNx => ?_) (fun hb H5 e5 => ?_) ?_
          · have hn := fz_bD (fz_ex e4 fb)
            cases hs1 : s.1 with
            | none =>
              rw [hs1] at hn
              exact et_is (et_or (a := true) (b := true) (et_is (et_test (ev_isN (ev_var rfl))) hn) (fun z => nomatch z)) rfl
            | some b =>
              rw [hs1] at hn fb
              exact et_is (et_or (a := false) (et_is (et_test (ev_isN (ev_var rfl))) hn) (fun _ => et_test (ev_ltN (ed_var rfl ft) (ed_var rfl (fz_ex e4 fb))))) rfl
          · refine s_parM (c_cons (ev_var rfl H5 (Ex.refl _) _ fun H6 e6 => c_cons (Evl.el_lst Evl.ea_nil (by decide) H6 (Ex.refl _) _ fun la2 H7 hla2 e7 h7 => c_nil ⟨_, _, rfl, hNx _ _ ?_⟩)))
            have e47 : Ex H4 H7 := (e5.trans e6).trans e7
            have hpre : pre1 s (tells M o pl, o ++ [pl]) = (some (tells M o pl), []) := if_pos hb
            rw [hpre]
            refine ⟨⟨⟨vt, la2, [], _, _, _, ⟨rfl, rfl, rfl, fun z => ?_⟩, rfl, fz_ex e47 ft, fresh_back (((eX3.trans e4).trans e5).trans e6) hla2, h7, fzl_nil⟩, (eX3.trans e4).trans e47⟩, e47 _ _ (e4 _ _ hp3), fz_ex e47 ft⟩
            rw [← z, e6 _ _ (e5 _ _ (e4 _ _ hp3))] at hla2
            cases hla2
          · have hpre : pre1 s (tells M o pl, o ++ [pl]) = s := if_neg (fun z => by
              have := hb.symm.trans z
              cases this)
            rw [hpre]
            exact ⟨⟨⟨vb, la, ls, _, _, _, ⟨rfl, rfl, rfl, hpla⟩, rfl, fz_ex (e4.trans e5) fb, hla, e5 _ _ (e4 _ _ hls), fzl_ex (e4.trans e5) fl⟩, (eX3.trans e4).trans e5⟩, e5 _ _ (e4 _ _ hp3), fz_ex e5 ft⟩
          · have hpl2 := pre1_len s (tells M o pl, o ++ [pl])
            rw [step1_pre]
            generalize pre1 s (tells M o pl, o ++ [pl]) = s1 at hpl2
            rintro σ5 H5 ⟨⟨⟨vb5, la5, ls5, _, _, _, ⟨rfl, rfl, rfl, hpla5⟩, rfl, fb5, hla5, hls5, fl5⟩, eX5⟩, hp5, ft5⟩
            refine s_when (b := decide (some (tells M o pl) = s1.1)) (et_is (et_test (ev_eqD (ed_var rfl ft5) (ed_var rfl fb5) (Plain.of (tN_plain _)) (bD_plain _))) (eqv_bD _ _)) (fun hb H6 e6 => ?_) (fun hb H6 e6 => ?_)
            · rw [if_pos (of_decide_eq_true hb)]
              refine s_appD (d := tN (o ++ [pl])) (e6 _ _ hls5) (ev_var rfl) (ed_tup (ea_is (ea_star (ed_var rfl (fz_ex (eX5.trans e6) fo)) (ea_d (ed_ev (ev_var rfl) fz_int) ea_nil)) ?_) ?_) ?_ fun v H7 e7 f => ?_
              · rw [List.map_append, List.map_append]
                rfl
              · rw [List.length_map, List.length_append, O.len]
                show t + 1 ≤ 100000
                omega
              · rw [fzl_len fl5, List.length_map]
                omega
              · have h7 := e7 _ _ (e6 _ _ hls5)
                have tx := (tex_of (e6.trans e7)).trans (tex_lst (o := .lst (ls5 ++ [v])) h7)
                refine ⟨⟨⟨vb5, la5, _, _, _, _, ⟨rfl, hpla5⟩, rfl, Fz.mono tx _ _ fb5, hla5, upd_same, ?_⟩, (eX5.trans (e6.trans e7)).mut hla5⟩, ?_⟩
                · rw [List.map_append]
                  exact fzl_append (FzL.mono tx _ _ fl5) (fzl_cons (Fz.mono (tex_lst h7) _ _ f) fzl_nil)
                · rw [upd_ne hpla5]
                  exact e7 _ _ (e6 _ _ hp5)
            · rw [if_neg (of_decide_eq_false hb)]
              exact ⟨⟨⟨vb5, la5, ls5, _, _, _, ⟨rfl, hpla5⟩, rfl, fz_ex e6 fb5, hla5, e6 _ _ hls5, fzl_ex e6 fl5⟩, eX5.trans e6⟩, e6 _ _ hp5⟩
        · obtain ⟨⟨⟨vb, la, ls, _, z7, z8, ⟨rfl, hpla⟩, rfl, fb, hla, hls, fl⟩, eX3⟩, hp3⟩ := h
          have e1 : cand m M (os.take i) ++ (cand1 m M o).take (vN (rest m o)).length = cand m M (os.take (i + 1)) := by
            rw [take_get ho, cand_snoc, List.take_of_length_le (l := cand1 m M o) (by unfold cand1; rw [List.length_map, vN_len]; exact Nat.le_refl _)]
          rw [e1] at fb fl
          exact ⟨⟨vb, la, ls, _, z7, z8, trivial, rfl, fb, hla, hls, fl⟩, eX3⟩
      · obtain ⟨⟨vb, la, ls, z6, z7, z8, _, rfl, fb, hla, hls, fl⟩, eX2⟩ := h
        rw [List.take_of_length_le (by omega)] at fb fl
        have hne := cand_ne (M := M) htm
        rw [hos] at hne
        obtain ⟨b, hb, _, _⟩ := (scan_least (cand m M os)).2 hne
        have hlap : laps m M (t + 1) = ((laps m M t).1 ++ b, (scan (cand m M os)).2) := by
          show lapF m M (laps m M t) = _
          unfold lapF
          rw [hos, hb]
          rfl
        rw [hb] at fb
        rw [hlap]
        have hcl : ((laps m M t).1 ++ b).length ≤ 1000 := by
          obtain ⟨l1, l2⟩ := laps_ok m M (t + 1) (by omega)
          obtain ⟨o, ho⟩ := List.exists_mem_of_ne_nil _ l1
          obtain ⟨O, C⟩ := l2 o ho
          have := coded_len C (by rw [O.len]; omega)
          rw [hlap, O.len] at this
          show ((laps m M t).1 ++ b).length ≤ 1000
          have h2 : ((laps m M t).1 ++ b).length ≤ 13 * (t + 1) := this
          omega
        refine s_parM (c_cons (ed_tup (ds := ((laps m M t).1 ++ b).map fun n : Nat => PyData.int (n : Int)) (ea_is (ea_star (ed_var rfl (fz_ex eX2 fc)) (ea_star (ed_var rfl fb) ea_nil)) ?_) (by rw [List.length_map]; omega) H2 (Ex.refl _) _ fun v H5 e5 f => c_cons (ev_var rfl H5 (Ex.refl _) _ fun H6 e6 => c_nil ⟨_, _, rfl, ⟨v, la, ls, _, _, _, _, _, _, rfl, fz_ex e6 f, e6 _ _ (e5 _ _ hls), fzl_ex (e5.trans e6) fl⟩, ((eX.trans eX2).trans e5).trans e6⟩)))
        rw [List.append_nil, List.map_append, List.map_append]
    · obtain ⟨⟨vc, po, xs, z3, z4, z5, z6, z7, z8, rfl, fc, hpo, fx⟩, eX⟩ := h
      rw [Int.toNat_natCast] at fc fx
      refine s_retM (Evl.ea_cons (ev_var rfl) (Evl.ea_cons (ev_var rfl) Evl.ea_nil) H' (Ex.refl _) _ fun H1 e1 => ⟨sz_of (show 2 ≤ 100000 by decide), fun tp htp => k tp vc po xs _ ?_ upd_same ?_ ?_ ?_⟩)
      · exact eX.trans (e1.trans (Ex.new htp))
      · exact fz_ex (e1.trans (Ex.new htp)) fc
      · exact Ex.new htp _ _ (e1 _ _ hpo)
      · exact fzl_ex (e1.trans (Ex.new htp)) fx
end
abbrev s_position_by : Stmt := top 25
abbrev N_position_by : List Str := ["order", "found", "at", "place"]
theorem sc_position_by : FnScope N_position_by ["order"] (defScope s_position_by) := ⟨rfl, rfl, rfl, by decide +kernel, rfl, by decide +kernel, by decide +kernel⟩
section
variable {P : Program} {w : World} {K : PySem.W.Frag} {mg : Str → Option Value} {base : Heap}
theorem ok_posby (B : Bt mg) (d : DefIn K mg "position_by" ["order"] s_position_by) : Okd P w K mg base "position_by" ["order"] s_position_by 1 (spD K 1 rPosBy) := by
  refine Okd.mk d sc_position_by (fun vs H Q E h => spD_len h) (fun f cdv A outer s H vs Q E hr h => ?_)
  obtain ⟨as, d, _, hv, ⟨m, o, rfl, hm, ho, rfl⟩, k⟩ := h
  obtain ⟨y, rfl, hy⟩ := agl1 hv
  replace hy := agd hy
  have hl := perm_len ho
  refine ⟨_, (pss_cons (ps_set (i := 1) sc_position_by.nd rfl (Or.inl rfl) (pe_op op_rep (pe_lst (pa_cons pe_int pa_nil)) (pe_callB call_len_seq (by rfl) B.len boot_len (pa_cons (pv 0) pa_nil))))
      (pss_cons (ps_for PassesOwn.never rfl (pi_enumT (by rfl) B.enumerate (pa_cons (pv 0) pa_nil)) (pg_tup (by rfl) (pgs_cons (pg_name (i := 2) sc_position_by.nd rfl (Or.inl rfl)) (pgs_cons (pg_name (i := 3) sc_position_by.nd rfl (Or.inl rfl)) pgs_nil))) (pss_one (ps_asg (pv 2) (pg_sub (pv 1) (pv 3) set_list))))
      (pss_one (ps_ret (pe_callTy call_tuple_of (by rfl) B.tuple boot_tuple (pa_cons (pv 1) pa_nil)))))), ?_⟩
  refine q_asgE (K := K) (ds := List.replicate m (.int ((0 : Nat) : Int))) (el_rep (WT.el_lst (ea_d (ed_ev ev_c fz_int) ea_nil) (by decide)) (ev_is (ev_lenT (ed_var rfl hy)) (by rw [List.length_map, hl])) (by omega)) fun l xs H1 hl0 e1 h1 f1 => ?_
  have hx1 : xs = vN (List.replicate m 0) := by
    exact (fzl_nats (K := K) (H := H1) (ns := List.replicate m 0)).mp (by rw [List.map_replicate]; exact f1)
  subst hx1
  refine q_forEn (ed_var rfl (fz_ex e1 hy)) fun H2 e2 => ⟨fun i σ' H' => (∃ z2 z3, σ' = [some y, some (.ref l), z2, z3]) ∧ TEx H2 H' ∧ Ex H H' ∧ ∃ F, H' l = some (.lst (vN F)) ∧ F.length = m ∧ ∀ j a, j < i → o[j]? = some a → F[a]? = some j,
    ⟨⟨none, none, rfl⟩, TEx.refl _, e1.trans e2, List.replicate m 0, e2 _ _ h1, List.length_replicate, fun j a hj => absurd hj (Nat.not_lt_zero _)⟩, fun i σ' H' h => h.2.1, ?_, ?_⟩
  · rintro i x d σ' H' H'' hd eH hx ⟨⟨z2, z3, rfl⟩, tx, eX, F, hF, hFl, inv⟩
    obtain ⟨a, ha, rfl⟩ := tN_get hd
    have hxx := fz_intI hx
    subst hxx
    have ham := perm_lt ho ha
    refine s_setL (v := .int (i : Int)) (eH _ _ hF) (ev_var rfl) (ev_var rfl) (ev_var rfl) (by rw [vN_len, hFl]; exact ham) fun H3 e3 => ⟨⟨_, _, rfl⟩, (tx.trans (tex_of (eH.trans e3))).trans (tex_lst (e3 _ _ (eH _ _ hF))), (eX.trans (eH.trans e3)).mut hl0, F.set a i, ?_, by rw [List.length_set, hFl], fun j b hj hb => ?_⟩
    · unfold vN
      rw [List.map_set]
      exact upd_same
    · rw [List.getElem?_set]
      by_cases hab : a = b
      · subst hab
        have hij : i = j := (List.getElem?_inj (List.getElem?_eq_some_iff.mp ha).1 (perm_nd ho)).mp (by rw [ha, hb])
        subst hij
        rw [if_pos rfl, if_pos (by omega)]
      · rw [if_neg hab]
        refine inv j b ?_ hb
        rcases Nat.lt_or_eq_of_le (Nat.le_of_lt_succ hj) with z | z
        · exact z
        · subst z
          rw [ha] at hb
          exact absurd (Option.some.inj hb) hab
  · rintro σ' H' ⟨⟨z2, z3, rfl⟩, tx, eX, F, hF, hFl, inv⟩
    have e : F = invN m o := tab_of hFl fun x hx => by
      obtain ⟨h1, h2⟩ := idx_lt ho hx
      exact inv _ _ (by rw [List.length_map]; omega) h2
    refine s_retD (K := K) (ed_tupOfL (ev_var rfl) (sq_of hF) (fzl_nats.mpr rfl)) fun v H3 e3 f => k v H3 (eX.trans e3) ?_
    rw [← e]
    exact f
end
abbrev s_least_picture : Stmt := top 26
abbrev N_least_picture : List Str := ["picture", "code", "orders", "position", "order"]
theorem sc_least_picture : FnScope N_least_picture ["picture"] (defScope s_least_picture) := ⟨rfl, rfl, rfl, by decide +kernel, rfl, by decide +kernel, by decide +kernel⟩
section
variable {P : Program} {w : World} {K : PySem.W.Frag} {mg : Str → Option Value} {base : Heap}
theorem ok_least (B : Bt mg) (o_look_at_picture : Okd P w K mg base "look_at_picture" ["picture"] s_look_at_picture 3 (spD K 1 rLook)) (o_least_orders : Okd P w K mg base "least_orders" ["picture"] s_least_orders 2 (spOrders K))
    (o_position_by : Okd P w K mg base "position_by" ["order"] s_position_by 1 (spD K 1 rPosBy)) (o_told_moved : Okd P w K mg base "told_moved" ["picture", "position"] s_told_moved 1 (spD K 2 rMoved))
    (d : DefIn K mg "least_picture" ["picture"] s_least_picture) : Okd P w K mg base "least_picture" ["picture"] s_least_picture 4 (spD K 1 rLeast) := by
  refine Okd.mk d sc_least_picture (fun vs H Q E h => spD_len h) (fun f cdv A outer s H vs Q E hr h => ?_)
  obtain ⟨as, d, _, hv, ⟨m, M, rfl, hM, rfl⟩, k⟩ := h
  obtain ⟨y, rfl, hy⟩ := agl1 hv
  replace hy := agd hy
  have hm := hM.le
  refine ⟨_, (pss_cons (ps_expr (pe_fn o_look_at_picture (hr.mono (by decide)) (pa_cons (pv 0) pa_nil)))
      (pss_cons (ps_asg (pe_fn o_least_orders (hr.mono (by decide)) (pa_cons (pv 0) pa_nil)) (pg_tup (by rfl) (pgs_cons (pg_name (i := 1) sc_least_picture.nd rfl (Or.inl rfl)) (pgs_cons (pg_name (i := 2) sc_least_picture.nd rfl (Or.inl rfl)) pgs_nil))))
      (pss_cons (ps_set (i := 3) sc_least_picture.nd rfl (Or.inl rfl) (pe_callB (cr_minD rfl (room64 hr)) (by rfl) B.min boot_min (pa_cons (pe_lc (own := [("order", 4)]) rfl sc_least_picture.nd (pi_list (pv 2)) (blkOk_by (own := [("order", 4)]) (N := N_least_picture) (sc := defScope s_least_picture) (by decide +kernel)) (fun _ _ _ _ _ => pg_name (i := 4) sc_least_picture.nd rfl (Or.inl rfl)) (fun _ _ _ _ _ => pts_nil) (fun _ _ _ _ _ => (pe_fn o_position_by (hr.mono (by decide)) (pa_cons (pv 4) pa_nil)))) pa_nil)))
      (pss_one (ps_ret (pe_tup (pa_cons (pe_fn o_told_moved (hr.mono (by decide)) (pa_cons (pv 0) (pa_cons (pv 3) pa_nil))) (pa_cons (pv 3) pa_nil)))))))), ?_⟩
  refine q_dropD (ed_call (ea_d (ed_var rfl hy) ea_nil) (pr_D ⟨m, M, rfl, hM, rfl⟩)) fun H1 e1 => ?_
  refine q_asgM (c_call (Evl.ea_cons (ev_var rfl) Evl.ea_nil H1 (Ex.refl _) _ fun H2 e2 => ⟨m, M, y, rfl, hM.sq, hm, fz_ex (e1.trans e2) hy, fun t vc po xs H3 e3 ht fc hpo fx => g2_pair ht ?_⟩))
  obtain ⟨o, os, hos, _, O, C⟩ := orders_take (k := m) (M := M)
  obtain ⟨l1, l2⟩ := laps_ok m M m (Nat.le_refl _)
  obtain ⟨q1, q2⟩ := least_ok m M
  have hmin : leastD m M = PySem.W.minD (tN (invN m o)) (os.map fun o => tN (invN m o)) := by
    unfold leastD
    rw [hos]
  have e13 := (e1.trans e2).trans e3
  have hsz := laps_len hm M m
  have h5 := pow5 hm
  refine q_asgD (d := tN (leastPos m M)) (ed_is (ed_minN (d := tN (invN m o)) (ds := os.map fun o => tN (invN m o)) (el_mapL (ev_var rfl) (sq_of hpo) fx (by rw [List.length_map]; omega) (by rw [hos]; simp) (fun _ => rfl) fun i x d e H4 e4 hd he f => ?_) ⟨?_, ?_⟩ ?_) (by rw [← q1, hmin])) fun v H4 e4 f4 => ?_
  · obtain ⟨o1, ho1, rfl⟩ := map_get hd
    rw [hos] at ho1
    rw [show tN (invN m o) :: os.map (fun o => tN (invN m o)) = (o :: os).map fun o => tN (invN m o) from rfl, List.getElem?_map, ho1] at he
    cases (Option.some.inj he)
    exact ed_call (ea_d (ed_var rfl f) ea_nil) (pr_D ⟨m, o1, rfl, hm, ord_perm (l2 o1 (by rw [hos]; exact List.mem_of_getElem? ho1)).1, rfl⟩)
  · intro x hx z hz
    rw [show tN (invN m o) :: os.map (fun o => tN (invN m o)) = (o :: os).map fun o => tN (invN m o) from rfl] at hx hz
    obtain ⟨a, _, rfl⟩ := List.mem_map.mp hx
    obtain ⟨b, _, rfl⟩ := List.mem_map.mp hz
    exact alike_tN _ _
  · intro x hx
    rw [show tN (invN m o) :: os.map (fun o => tN (invN m o)) = (o :: os).map fun o => tN (invN m o) from rfl] at hx
    obtain ⟨a, _, rfl⟩ := List.mem_map.mp hx
    exact fun z => nomatch z
  · refine Nat.le_trans (depthAll_le (n := 1) fun x hx => ?_) (by decide)
    rw [show tN (invN m o) :: os.map (fun o => tN (invN m o)) = (o :: os).map fun o => tN (invN m o) from rfl] at hx
    obtain ⟨a, _, rfl⟩ := List.mem_map.mp hx
    exact (tN_plain _).2
  · refine s_retD (ed_tup (ds := [tNN (leastPic m M), tN (leastPos m M)]) (ea_d (ed_call (ea_d (ed_var rfl (fz_ex (e13.trans e4) hy)) (ea_d (ed_var rfl f4) ea_nil)) (pr_D ⟨m, M, leastPos m M, rfl, hM.sq, hm, q2, rfl⟩)) (ea_d (ed_var rfl f4) ea_nil)) (show 2 ≤ 100000 by decide)) fun v5 H5 e5 f5 => k v5 H5 ((e13.trans e4).trans e5) f5
end
abbrev s_law_picture_drawn : Stmt := top 36
abbrev N_law_picture_drawn : List Str := ["pot", "most", "many", "kind", "rows", "one", "other", "place", "row"]
theorem sc_law_picture_drawn : FnScope N_law_picture_drawn ["pot", "most"] (defScope s_law_picture_drawn) := ⟨rfl, rfl, rfl, by decide +kernel, rfl, by decide +kernel, by decide +kernel⟩
section
variable {P : Program} {w : World} {K : PySem.W.Frag} {mg : Str → Option Value} {base : Heap}
theorem ok_pic (B : Bt mg) (o_law_take : Okd P w K mg base "_law_take" ["pot", "upto"] s_law_take 1 spTake) (d : DefIn K mg "_law_picture_drawn" ["pot", "most"] s_law_picture_drawn) : Okd P w K mg base "_law_picture_drawn" ["pot", "most"] s_law_picture_drawn 2 (spPic K) := by
  refine Okd.mk d sc_law_picture_drawn (fun vs H Q E h => ?_) (fun f cdv A outer s H vs Q E hr h => ?_)
  · obtain ⟨p, n, m, rfl, _⟩ := h
    rfl
  · obtain ⟨p, n, mo, rfl, hP, hn, hm1, hm2, k⟩ := h
    refine ⟨_, (pss_cons (ps_asg (pe_tup (pa_cons (pe_op op_add pe_int (pe_fn o_law_take (hr.mono (by decide)) (pa_cons (pv 0) (pa_cons (pv 1) pa_nil)))) (pa_cons (pe_fn o_law_take (hr.mono (by decide)) (pa_cons (pv 0) (pa_cons pe_int pa_nil))) pa_nil))) (pg_tup (by rfl) (pgs_cons (pg_name (i := 2) sc_law_picture_drawn.nd rfl (Or.inr rfl)) (pgs_cons (pg_name (i := 3) sc_law_picture_drawn.nd rfl (Or.inl rfl)) pgs_nil))))
      (pss_cons (ps_setLc (i := 4) (own := [("place", 7)]) rfl sc_law_picture_drawn.nd rfl rfl (sw_true rfl rfl rfl (by decide +kernel)) (pi_range1 (by rfl) B.range (pa_cons (pv 2) pa_nil)) (blkOk_by (own := [("place", 7)]) (N := N_law_picture_drawn) (sc := defScope s_law_picture_drawn) (by decide +kernel)) (fun _ _ _ _ _ => pg_name (i := 7) sc_law_picture_drawn.nd rfl (Or.inl rfl)) (fun _ _ _ _ _ => pts_nil) (fun _ _ _ _ _ => (pe_op op_rep (pe_lst (pa_cons pe_int pa_nil)) (pv 2))))
      (pss_cons (ps_for PassesOwn.never rfl (pi_range1 (by rfl) B.range (pa_cons (pv 2) pa_nil)) (pg_name (i := 5) sc_law_picture_drawn.nd rfl (Or.inl rfl)) (pss_one (ps_for PassesOwn.never rfl (pi_range1 (by rfl) B.range (pa_cons (pv 2) pa_nil)) (pg_name (i := 6) sc_law_picture_drawn.nd rfl (Or.inl rfl)) (pss_cons (ps_if (pt_cmpR op_eq (pv 3) pe_int (nomark _)) (pss_one (ps_asg (pe_callTy call_int1 (by rfl) B.int boot_int (pa_cons (pe_fn o_law_take (hr.mono (by decide)) (pa_cons (pv 0) (pa_cons pe_int pa_nil))) pa_nil)) (pg_sub (pe_ix ix_list (pv 4) (pv 5) (fun _ _ => rfl)) (pv 6) set_list))) pss_nil)
          (pss_cons (ps_if (PW.pt (pw_and (pt_cmpR op_in_seq (pv 3) (pe_tup (pa_cons pe_int (pa_cons pe_int pa_nil))) (by rfl)) (pw_and1 (pt_cmpR op_lt (pv 5) (pv 6) (nomark _))))) (pss_cons (ps_asg (pe_callTy call_int1 (by rfl) B.int boot_int (pa_cons (pe_fn o_law_take (hr.mono (by decide)) (pa_cons (pv 0) (pa_cons pe_int pa_nil))) pa_nil)) (pg_sub (pe_ix ix_list (pv 4) (pv 5) (fun _ _ => rfl)) (pv 6) set_list))
            (pss_one (ps_asg (pe_ix ix_list (pe_ix ix_list (pv 4) (pv 5) (fun _ _ => rfl)) (pv 6) (fun _ _ => rfl)) (pg_sub (pe_ix ix_list (pv 4) (pv 6) (fun _ _ => rfl)) (pv 5) set_list)))) pss_nil)
          (pss_one (ps_if (pt_cmpR op_eq (pv 3) pe_int (nomark _)) (pss_one (ps_asg (pe_callTy call_int1 (by rfl) B.int boot_int (pa_cons (pe_cmpR op_in_seq (pe_op op_mod (pe_op op_sub (pv 5) (pv 6)) (pv 2)) (pe_tup (pa_cons pe_int (pa_cons (pe_op op_sub (pv 2) pe_int) pa_nil))) (by rfl)) pa_nil)) (pg_sub (pe_ix ix_list (pv 4) (pv 5) (fun _ _ => rfl)) (pv 6) set_list))) pss_nil)))))))
      (pss_one (ps_ret (pe_callTy call_tuple_of (by rfl) B.tuple boot_tuple (pa_cons (pe_lc (own := [("row", 8)]) rfl sc_law_picture_drawn.nd (pi_list (pv 4)) (blkOk_by (own := [("row", 8)]) (N := N_law_picture_drawn) (sc := defScope s_law_picture_drawn) (by decide +kernel)) (fun _ _ _ _ _ => pg_name (i := 8) sc_law_picture_drawn.nd rfl (Or.inl rfl)) (fun _ _ _ _ _ => pts_nil) (fun _ _ _ _ _ => (pe_callTy (cK (K := K) (r := rTupOf) call_tuple_of rfl) (by rfl) B.tuple boot_tuple (pa_cons (pv 8) pa_nil)))) pa_nil))))))), ?_⟩
    refine q_tupM (c_cons (c_op ?_))
    refine ev_c H (Ex.refl _) _ fun H0 e0 => ?_
    refine x_take (u := mo) (ev_var rfl) (ev_var rfl) (hP.ex e0) (by omega) hm1 (by omega) fun dd H1 hdd e1 hP1 => c_I0 (z := .int ((dd + 1 : Nat) : Int)) (by show V.int _ = V.int _; congr 1; omega) ?_
    refine c_cons (x_take (u := 5) (ev_var rfl) ev_c hP1 (by omega) (by decide) (by decide) fun kd H2' hkd e2' hP2' => c_nil ⟨sz_of (show 2 ≤ 100000 by decide), fun tp htp => g2_pair upd_same ?_⟩)
    generalize hmd : dd + 1 = m
    generalize hH2 : upd H2' tp _ = H2
    have e2x : Ex H2' H2 := by
      rw [← hH2]
      exact Ex.new htp
    have e2 := e2'.ex e2x
    have hP2 := hP2'.ex e2x
    have hm3 : 1 ≤ m := by omega
    have hm4 : m ≤ 5 := by omega
    have eB2 : But p H H2 := ((But.of e0).trans e1).trans e2
    refine q_asgR (K := K) (rss := List.replicate m (List.replicate m (.int 0))) (elr_is (er_lcRd (n := m) (out := fun i => List.replicate i (List.replicate m (.int 0))) (Evl.ea_cons (ev_var rfl) Evl.ea_nil) (by omega) rfl (fun i hi => by rw [List.length_replicate]; omega) (fun _ => rfl) fun i H1 e1 hi => ⟨_, el_rep (WT.el_lst (ea_d (ed_ev ev_c fz_int) ea_nil) (by decide)) (ev_var rfl) (by omega), ?_⟩) ?_) fun q qs H3 hq e3 R => ?_
    · rw [List.replicate_succ']
    · rfl
    · have hpq : p ∉ q :: qs := fun z => by
        obtain ⟨a, b, c, g, _⟩ := hP2
        rw [hq p z] at g
        cases g
      have hqH : ∀ x ∈ q :: qs, H x = none := fun x hx => eB2.fresh (hq x hx) (fun z => hpq (z ▸ hx))
      let J : Nat → Hp → Prop := fun c H' => ∃ F, RowsP K H' q qs (rN F) ∧ Sq m F ∧ Mk F ∧ But p H H' ∧ PotAt H' p c
      have Jex : ∀ {c : Nat} {H' H'' : Hp}, J c H' → Ex H' H'' → J c H'' := fun ⟨F, a1, a2, a3, a4, a5⟩ e => ⟨F, a1.ex e, a2, a3, a4.ex e, a5.ex e⟩
      have Jle : ∀ {c d : Nat} {H' : Hp}, J c H' → c ≤ d → J d H' := fun ⟨F, a1, a2, a3, a4, a5⟩ e => ⟨F, a1, a2, a3, a4, a5.le e⟩
      -- one mark set
      have Jset : ∀ {σ : L2.St} {c : Nat} {H' : Hp} {Nx : L2.St → Hp → Prop} {i j x : Nat} {te tb tc : TE}, J c H' → Ed K te σ H' (.int (x : Int)) → x ≤ 2 → σ[4]? = some (some (.ref q)) → Ev tb σ H' (.int (i : Int)) → Ev tc σ H' (.int (j : Int)) → i < m → j < m →
          (∀ H2, J c H2 → Nx σ H2) → te σ H' fun v H1 => gSub (tOp (rIxL K) (tVar 4) tb) tc rSetL v σ H1 Nx := fun {σ c H' Nx i j x te tb tc} hJ he hx h4 hi hj him hjm kk => by
        obtain ⟨F, RF, sqF, mkF, eB, hPc⟩ := hJ
        obtain ⟨row, hrow, hrowl, _⟩ := sqF.get him
        refine s_setRow (Dn := { nx := Nx, rt := fun _ _ => True }) RF he (ev_var h4) hi hj (rN_get hrow) (by rw [rNs_len, hrowl]; exact hjm) fun H6 q' xs v hq' e6 h6 R6 => kk _ ⟨F.set i (row.set j x), ?_, sq_set sqF hrow, mk_set mkF hrow hx, (eB.ex e6).mut (hqH q' (List.mem_cons_of_mem _ hq')), ?_⟩
        · rw [← rN_set]
          exact R6
        · obtain ⟨a1, b1, c1, g1, g2⟩ := hPc.ex e6
          exact ⟨a1, b1, c1, by rw [upd_ne (show p ≠ q' from fun z => hpq (z ▸ List.mem_cons_of_mem _ hq'))]; exact g1, g2⟩
      -- a draw
      have Jbut : ∀ {c : Nat} {H' H'' : Hp}, J c H' → But p H' H'' → PotAt H'' p (c + 1) → J (c + 1) H'' := fun {c H' H''} ⟨F, a1, a2, a3, a4, a5⟩ e hp => ⟨F, a1.but (a5.tex e) e hpq, a2, a3, a4.trans e, hp⟩
      refine q_forR1 (n := (m : Int)) (Evl.ea_cons (ev_var rfl) Evl.ea_nil) ⟨by omega, by omega⟩ (fun i σ' H' => (∃ z5 z6, σ' = [some (.ref p), some (.int (mo : Int)), some (.int (m : Int)), some (.int (kd : Int)), some (.ref q), z5, z6, none, none]) ∧ J (n + 2 + 10 * i) H') (fun H4 e4 => ?_) (fun i σ' H' hi h => ?_) (fun σ' H' h => ?_)
      · refine ⟨⟨none, none, rfl⟩, List.replicate m (List.replicate m 0), ?_, sq_zero, mk_zero, eB2.ex (e3.trans e4), (hP2.ex (e3.trans e4)).le (by omega)⟩
        rw [rN_zero]
        exact R.ex e4
      · obtain ⟨⟨z5, z6, rfl⟩, hJ⟩ := h
        have him : i < m := by omega
        refine s_forR1 (n := (m : Int)) (Evl.ea_cons (ev_var rfl) Evl.ea_nil) ⟨by omega, by omega⟩ (fun j σ' H' => (∃ z6, σ' = [some (.ref p), some (.int (mo : Int)), some (.int (m : Int)), some (.int (kd : Int)), some (.ref q), some (.int (i : Int)), z6, none, none]) ∧ J (n + 2 + 10 * i + 2 * j) H') (fun H4 e4 => ⟨⟨z6, rfl⟩, Jex hJ e4⟩) (fun j σ' H4 hj h => ?_) (fun σ' H4 h => ?_)
        · obtain ⟨⟨z6, rfl⟩, hJ4⟩ := h
          have hjm : j < m := by omega
          refine q_whenJ (b := decide (V.int (kd : Int) = V.int 0)) (J (n + 2 + 10 * i + 2 * j + 1)) (et_test (ev_op (ev_var rfl) ev_c (rv_eq rfl))) (fun _ H5 e5 Nx hNx => ?_) (fun _ H5 e5 => Jle (Jex hJ4 e5) (by omega)) fun H5 hJ5 => ?_
          · refine s_asgM (c_cb (c_cons (x_take (u := 3) (ev_var rfl) ev_c (by obtain ⟨F, a1, a2, a3, a4, a5⟩ := Jex hJ4 e5; exact a5) (by omega) (by decide) (by decide) fun x H6 hx e6 hP6 => c_nil (.inl ⟨_, rfl, ?_⟩))))
            exact Jset (te := tC (.int (x : Int))) (Jbut (Jex hJ4 e5) e6 hP6) (ed_ev ev_c fz_int) (by omega) rfl (ev_var rfl) (ev_var rfl) him hjm hNx
          · have hcond : EvT _ [some (V.ref p), some (.int (mo : Int)), some (.int (m : Int)), some (.int (kd : Int)), some (.ref q), some (.int (i : Int)), some (.int (j : Int)), none, none] H5 (inV (.int (kd : Int)) [.int 1, .int 2] && decide ((i : Int) < (j : Int))) :=
              et_and (et_test (ev_inU (K := K) (ev_var (i := 3) rfl) (eu_tup (Evl.ea_cons ev_c (Evl.ea_cons ev_c Evl.ea_nil)) (show 2 ≤ 100000 by decide)) rfl rfl)) fun _ => et_test (ev_op (ev_var (i := 5) rfl) (ev_var (i := 6) rfl) (rv_I0 (g := fun i j => .bl (decide (i < j)))))
            refine q_whenJ (J (n + 2 + 10 * i + 2 * j + 2)) hcond (fun hb H6 e6 Nx hNx => ?_) (fun _ H6 e6 => Jle (Jex hJ5 e6) (by omega)) fun H6 hJ6 => ?_
            · refine q_asgM (c_cb (c_cons (x_take (u := 2) (ev_var rfl) ev_c (by obtain ⟨F, a1, a2, a3, a4, a5⟩ := Jex hJ5 e6; exact a5) (by omega) (by decide) (by decide) fun x H7 hx e7 hP7 => c_nil (.inl ⟨_, rfl, ?_⟩))))
              refine Jset (σ := [some (V.ref p), some (.int (mo : Int)), some (.int (m : Int)), some (.int (kd : Int)), some (.ref q), some (.int (i : Int)), some (.int (j : Int)), none, none]) (tb := tVar 5) (tc := tVar 6) (te := tC (.int (x : Int))) (Jbut (Jex hJ5 e6) e7 hP7) (ed_ev ev_c fz_int) (by omega) rfl (ev_var rfl) (ev_var rfl) him hjm fun H8 hJ8 => ?_
              obtain ⟨F, RF, sqF, mkF, eB, hPc⟩ := hJ8
              obtain ⟨row, hrow, hrowl, _⟩ := sqF.get him
              have hat := sqF.at hrow hjm
              have hedge : at2 F i j ≤ 2 := mkF row (List.mem_of_getElem? hrow) _ (List.mem_of_getElem? hat)
              exact s_asgM (Jset (x := at2 F i j) ⟨F, RF, sqF, mkF, eB, hPc⟩ (ed_rowAt2 RF (ev_var rfl) (ev_var rfl) (ev_var rfl) (rN_get hrow) (by unfold rNs; rw [List.getElem?_map, hat]; rfl)) hedge rfl (ev_var rfl) (ev_var rfl) hjm him hNx)
            · refine s_whenJ (b := decide (V.int (kd : Int) = V.int 3)) (J (n + 2 + 10 * i + 2 * j + 2)) (et_test (ev_op (ev_var rfl) ev_c (rv_eq rfl))) (fun _ H7 e7 Nx hNx => ?_) (fun _ H7 e7 => Jex hJ6 e7) fun H7 hJ7 => ⟨⟨_, rfl⟩, Jle hJ7 (by omega)⟩
              have hin : Ev _ [some (V.ref p), some (.int (mo : Int)), some (.int (m : Int)), some (.int (kd : Int)), some (.ref q), some (.int (i : Int)), some (.int (j : Int)), none, none] H7 (.bl (inV (.int (((i : Int) - (j : Int)) % (m : Int))) [.int 1, .int ((m : Int) - 1)])) :=
                ev_inU (K := K) (ev_op (ev_op (ev_var (i := 5) rfl) (ev_var (i := 6) rfl) (rv_I0 (g := fun i j => .int (i - j)))) (ev_var (i := 2) rfl) (rv_I (g := fun i j => .int (i % j)) (C := fun _ j => 0 < j) (show (0 : Int) < (m : Int) by omega))) (eu_tup (Evl.ea_cons ev_c (Evl.ea_cons (ev_op (ev_var (i := 2) rfl) ev_c (rv_I0 (g := fun i j => .int (i - j)))) Evl.ea_nil)) (show 2 ≤ 100000 by decide)) rfl rfl
              have hint := ev_intB hin
              refine s_asgM (Jset (x := if inV (.int (((i : Int) - (j : Int)) % (m : Int))) [.int 1, .int ((m : Int) - 1)] then 1 else 0) (Jex hJ6 e7) (ed_ev hint ?_) (by split <;> omega) rfl (ev_var rfl) (ev_var rfl) him hjm hNx)
              cases inV (.int (((i : Int) - (j : Int)) % (m : Int))) [.int 1, .int ((m : Int) - 1)]
              · exact fz_int
              · exact fz_int
        · obtain ⟨⟨z6, rfl⟩, hJ4⟩ := h
          exact ⟨⟨_, _, rfl⟩, Jle hJ4 (by omega)⟩
      · obtain ⟨⟨z5, z6, rfl⟩, F, RF, sqF, mkF, eB, hPc⟩ := h
        refine s_retD (ed_tupRows (ev_var rfl) RF (by rw [sqF.len]; omega) (fun _ => rfl) fun _ => rfl) fun v H4 e4 f => k v H4 m F (eB.ex e4) ((hPc.ex e4).le (by omega)) ⟨hm3, hm4, sqF.len, sqF.row, mkF⟩ f
end
abbrev s_law_moved : Stmt := top 37
abbrev N_law_moved : List Str := ["picture", "position", "row", "found", "one", "other", "mark"]
theorem sc_law_moved : FnScope N_law_moved ["picture", "position"] (defScope s_law_moved) := ⟨rfl, rfl, rfl, by decide +kernel, rfl, by decide +kernel, by decide +kernel⟩
section
variable {P : Program} {w : World} {K : PySem.W.Frag} {mg : Str → Option Value} {base : Heap}
theorem ok_law_moved (B : Bt mg) (d : DefIn K mg "_law_moved" ["picture", "position"] s_law_moved) : Okd P w K mg base "_law_moved" ["picture", "position"] s_law_moved 1 (spD K 2 rMoved) := by
  refine Okd.mk d sc_law_moved (fun vs H Q E h => spD_len h) (fun f cdv A outer s H vs Q E hr h => ?_)
  obtain ⟨as, d, _, hv, ⟨m, M, p, rfl, hM, hm, hp, rfl⟩, k⟩ := h
  obtain ⟨y, z, rfl, hy, hz⟩ := agl2 hv
  replace hy := agd hy
  replace hz := agd hz
  refine ⟨_, (pss_cons (ps_setLc (i := 3) (own := [("row", 2)]) rfl sc_law_moved.nd rfl rfl (sw_true rfl rfl rfl (by decide +kernel)) (pi_tup (pv 0)) (blkOk_by (own := [("row", 2)]) (N := N_law_moved) (sc := defScope s_law_moved) (by decide +kernel)) (fun _ _ _ _ _ => pg_name (i := 2) sc_law_moved.nd rfl (Or.inl rfl)) (fun _ _ _ _ _ => pts_nil) (fun _ _ _ _ _ => (pe_op op_rep (pe_lst (pa_cons pe_int pa_nil)) (pe_callB (cK (K := K) (r := rLenS) call_len_seq rfl) (by rfl) B.len boot_len (pa_cons (pv 0) pa_nil)))))
      (pss_cons (ps_for PassesOwn.never rfl (pi_enumT (by rfl) B.enumerate (pa_cons (pv 0) pa_nil)) (pg_tup (by rfl) (pgs_cons (pg_name (i := 4) sc_law_moved.nd rfl (Or.inl rfl)) (pgs_cons (pg_name (i := 2) sc_law_moved.nd rfl (Or.inl rfl)) pgs_nil))) (pss_one (ps_for PassesOwn.never rfl (pi_enumT (by rfl) B.enumerate (pa_cons (pv 2) pa_nil)) (pg_tup (by rfl) (pgs_cons (pg_name (i := 5) sc_law_moved.nd rfl (Or.inl rfl)) (pgs_cons (pg_name (i := 6) sc_law_moved.nd rfl (Or.inl rfl)) pgs_nil))) (pss_one (ps_asg (pv 6) (pg_sub (pe_ix ix_list (pv 3) (pe_ix ix_tup (pv 1) (pv 4) (fun _ _ => rfl)) (fun _ _ => rfl)) (pe_ix ix_tup (pv 1) (pv 5) (fun _ _ => rfl)) set_list))))))
      (pss_one (ps_ret (pe_callTy call_tuple_of (by rfl) B.tuple boot_tuple (pa_cons (pe_lc (own := [("row", 2)]) rfl sc_law_moved.nd (pi_list (pv 3)) (blkOk_by (own := [("row", 2)]) (N := N_law_moved) (sc := defScope s_law_moved) (by decide +kernel)) (fun _ _ _ _ _ => pg_name (i := 2) sc_law_moved.nd rfl (Or.inl rfl)) (fun _ _ _ _ _ => pts_nil) (fun _ _ _ _ _ => (pe_callTy (cK (K := K) (r := rTupOf) call_tuple_of rfl) (by rfl) B.tuple boot_tuple (pa_cons (pv 2) pa_nil)))) pa_nil)))))), ?_⟩
  have hl := hM.len
  have hpl := perm_len hp
  have hlen : ∀ {H1 : Hp} {σ : L2.St}, Ex H H1 → σ[0]? = some (some y) → Ev (tCB (rLenS K) (tCons (tVar 0) tNil)) σ H1 (.int (m : Int)) := fun e h0 => ev_is (ev_lenT (ed_var h0 (fz_ex e hy))) (by rw [List.length_map, hl])
  refine q_asgR (rss := List.replicate m (List.replicate m (.int 0))) (elr_is (er_lcTd (out := fun i => List.replicate i (List.replicate m (.int 0))) (ed_var rfl hy) rfl (fun i hi => ?_) (fun _ => rfl) fun i x d H1 e1 hd f => ⟨_, el_rep (WT.el_lst (ea_d (ed_ev ev_c fz_int) ea_nil) (by decide)) (hlen e1 rfl) (by omega), ?_⟩) ?_) fun q qs H1 hq e1 R => ?_
  · rw [List.length_replicate]
    rw [List.length_map] at hi
    omega
  · rw [List.replicate_succ']
  · rw [List.length_map, hl]
  · have hqn : ∀ x ∈ q :: qs, H x = none := hq
    -- after n rows
    let In (F : List (List Nat)) (n j : Nat) : Prop := Sq m F ∧ ∀ a b c d, (a < n ∨ (a = n ∧ b < j)) → p[a]? = some c → p[b]? = some d → at2 F c d = at2 M a b
    have hp1 : ∀ {H1 : Hp}, TEx H H1 → Fz K H1 (tN p) z := fun e => Fz.mono e _ _ hz
    refine q_forEn (ed_var rfl (fz_ex e1 hy)) fun H2 e2 => ⟨fun n σ' H' => (∃ z2 z4 z5 z6, σ' = [some y, some z, z2, some (.ref q), z4, z5, z6]) ∧ TEx H2 H' ∧ Ex H H' ∧ ∃ F, RowsP K H' q qs (rN F) ∧ In F n 0,
      ⟨⟨none, none, none, none, rfl⟩, TEx.refl _, e1.trans e2, List.replicate m (List.replicate m 0), ?_, sq_zero, fun a b c d h => ?_⟩, fun n σ' H' h => h.2.1, ?_, ?_⟩
    · have e : rN (List.replicate m (List.replicate m 0)) = List.replicate m (List.replicate m (.int 0)) := by
        unfold rN rNs
        rw [List.map_replicate, List.map_replicate]
        rfl
      rw [e]
      exact R.ex e2
    · omega
    · rintro n x d σ' H' H'' hd eH hx ⟨⟨z2, z4, z5, z6, rfl⟩, tx, eX, F, RF, sqF, inv⟩
      obtain ⟨r, hr, rfl⟩ := map_get hd
      have hrl := hM.row r (List.mem_of_getElem? hr)
      have hn : n < m := by
        have := (List.getElem?_eq_some_iff.mp hr).1
        omega
      obtain ⟨pn, hpn⟩ : ∃ a, p[n]? = some a := ⟨_, List.getElem?_eq_getElem (by omega)⟩
      refine s_forEn (ed_var rfl hx) fun H3 e3 => ⟨fun j σ' H' => (∃ z5 z6, σ' = [some y, some z, some x, some (.ref q), some (.int (n : Int)), z5, z6]) ∧ TEx H3 H' ∧ Ex H H' ∧ ∃ F, RowsP K H' q qs (rN F) ∧ In F n j,
        ⟨⟨z5, z6, rfl⟩, TEx.refl _, (eX.trans eH).trans e3, F, RF.ex (eH.trans e3), sqF, inv⟩, fun n σ' H' h => h.2.1, ?_, ?_⟩
      · rintro j x2 d2 σ' H4 H5 hd2 eH5 hx2 ⟨⟨z5, z6, rfl⟩, tx4, eX4, F4, RF4, sqF4, inv4⟩
        obtain ⟨mk, hmk, rfl⟩ := tN_get hd2
        have hj : j < m := by
          have := (List.getElem?_eq_some_iff.mp hmk).1
          omega
        obtain ⟨pj, hpj⟩ : ∃ a, p[j]? = some a := ⟨_, List.getElem?_eq_getElem (by omega)⟩
        have hzz : Fz K H5 (tN p) z := hp1 (tex_of (eX4.trans eH5))
        have gp : ∀ {i a : Nat}, p[i]? = some a → (p.map fun n : Nat => PyData.int (n : Int))[i]? = some (.int (a : Int)) := fun h => by
          rw [List.getElem?_map, h]
          rfl
        obtain ⟨row, hrow, hrowl, _⟩ := sqF4.get (perm_lt hp hpn)
        refine s_setRow (RF4.ex eH5) (ed_var rfl hx2) (ev_var rfl) (ev_int (ed_ixT (ed_var rfl hzz) (ev_var rfl) (gp hpn))) (ev_int (ed_ixT (ed_var rfl hzz) (ev_var rfl) (gp hpj))) (rN_get hrow) (by unfold rNs; rw [List.length_map, hrowl]; exact perm_lt hp hpj) fun H6 q' xs v hq' e6 h6 R6 => ?_
        refine ⟨⟨_, _, rfl⟩, (tx4.trans (tex_of (eH5.trans e6))).trans (tex_lst h6), Ex.mut ((eX4.trans eH5).trans e6) (hqn q' (List.mem_cons_of_mem _ hq')), F4.set pn (row.set pj mk), ?_, sq_set sqF4 hrow, fun a b c d h hc hd5 => ?_⟩
        · rw [← rN_set]
          exact R6
        · rw [at2_set sqF4 hrow (perm_lt hp hpj)]
          by_cases hcd : c = pn ∧ d = pj
          · rw [if_pos hcd]
            have ea : a = n := by rw [← idx_of_get (perm_nd hp) hc, hcd.1, idx_of_get (perm_nd hp) hpn]
            have eb : b = j := by rw [← idx_of_get (perm_nd hp) hd5, hcd.2, idx_of_get (perm_nd hp) hpj]
            subst ea eb
            have z1 := hM.at hr hj
            rw [hmk] at z1
            exact Option.some.inj z1
          · rw [if_neg hcd]
            refine inv4 a b c d ?_ hc hd5
            rcases h with h | ⟨h1, h2⟩
            · exact .inl h
            · refine .inr ⟨h1, ?_⟩
              rcases Nat.lt_or_eq_of_le (Nat.le_of_lt_succ h2) with h3 | h3
              · exact h3
              · subst h1 h3
                rw [hpn] at hc
                rw [hpj] at hd5
                exact absurd ⟨(Option.some.inj hc).symm, (Option.some.inj hd5).symm⟩ hcd
      · rintro σ' H4 ⟨⟨z5, z6, rfl⟩, tx4, eX4, F4, RF4, sqF4, inv4⟩
        refine ⟨⟨_, _, _, _, rfl⟩, (tx.trans (tex_of (eH.trans e3))).trans tx4, eX4, F4, RF4, sqF4, fun a b c d h hc hd => inv4 a b c d ?_ hc hd⟩
        rcases h with h | h
        · rcases Nat.lt_or_eq_of_le (Nat.le_of_lt_succ h) with h3 | h3
          · exact .inl h3
          · refine .inr ⟨h3, ?_⟩
            have := (List.getElem?_eq_some_iff.mp hd).1
            rw [List.length_map]
            omega
        · omega
    · rintro σ' H' ⟨⟨z2, z4, z5, z6, rfl⟩, tx, eX, F, RF, sqF, inv⟩
      have hF : movedN m M p = F := moved_of hp sqF fun i j a b ha hb => inv i j a b (.inl (by
        have := (List.getElem?_eq_some_iff.mp ha).1
        rw [List.length_map]
        omega)) ha hb
      have hFl : (rN F).length = m := by
        unfold rN
        rw [List.length_map, sqF.len]
      refine s_retD (ed_tupOf (el_is (el_lcRows (out := fun i => ((rN F).map PyData.tuple).take i) (ev_var rfl) RF rfl (fun i hi => ?_) (fun _ => rfl) fun i q2 xs r H4 e4 hr hx hf => ⟨.tuple r, ed_tupOfL (ev_var rfl) (sq_of hx) hf, take_get (by rw [List.getElem?_map, hr]; rfl)⟩) (by rw [List.take_of_length_le (by rw [List.length_map]; exact Nat.le_refl _)]))) fun v H4 e4 f => k v H4 (eX.trans e4) ?_
      · rw [List.length_take]
        omega
      · rw [hF, tNN_rN]
        exact f
end
abbrev s_law_every : Stmt := top 39
abbrev N_law_every : List Str := ["many", "found", "lap", "longer", "row", "to"]
theorem sc_law_every : FnScope N_law_every ["many"] (defScope s_law_every) := ⟨rfl, rfl, rfl, by decide +kernel, rfl, by decide +kernel, by decide +kernel⟩
section
variable {P : Program} {w : World} {K : PySem.W.Frag} {mg : Str → Option Value} {base : Heap}
theorem ok_every (B : Bt mg) (d : DefIn K mg "_law_every" ["many"] s_law_every) : Okd P w K mg base "_law_every" ["many"] s_law_every 1 (spEvery K) := by
  refine Okd.mk d sc_law_every (fun vs H Q E h => ?_) (fun f cdv A outer s H vs Q E hr h => ?_)
  · obtain ⟨m, rfl, _⟩ := h
    rfl
  · obtain ⟨m, rfl, hm, k⟩ := h
    refine ⟨_, (pss_cons (ps_set (i := 1) sc_law_every.nd rfl (Or.inl rfl) (pe_lst (pa_cons (pe_tup pa_nil) pa_nil)))
      (pss_cons (ps_for PassesOwn.never rfl (pi_range1 (by rfl) B.range (pa_cons (pv 0) pa_nil)) (pg_name (i := 2) sc_law_every.nd rfl (Or.inl rfl)) (pss_cons (ps_set (i := 3) sc_law_every.nd rfl (Or.inl rfl) (pe_lst pa_nil))
        (pss_cons (ps_for PassesOwn.never rfl (pi_list (pv 1)) (pg_name (i := 4) sc_law_every.nd rfl (Or.inr rfl)) (pss_one (ps_expr (pe_bm PySem.F.plainAttrs_list PySem.F.slot_list_extend PySem.F.type_list_extend mt_extend (pv 3) (pa_cons (pe_lc (own := [("to", 5)]) rfl sc_law_every.nd (pi_range1 (by rfl) B.range (pa_cons (pv 0) pa_nil)) (blkOk_by (own := [("to", 5)]) (N := N_law_every) (sc := defScope s_law_every) (by decide +kernel)) (fun _ _ _ _ _ => pg_name (i := 5) sc_law_every.nd rfl (Or.inl rfl)) (fun _ _ _ _ _ => (pts_one (pt_cmpR (oK (K := K) (r := (fun K => rIn K true)) op_notIn_seq rfl) (pv 5) (pv 4) (by rfl)))) (fun _ _ _ _ _ => (pe_op (oK (K := K) (r := rCatA) op_catA rfl) (pv 4) (pe_tup (pa_cons (pv 5) pa_nil))))) pa_nil)))))
        (pss_one (ps_set (i := 1) sc_law_every.nd rfl (Or.inl rfl) (pv 3))))))
      (pss_one (ps_ret (pv 1))))), ?_⟩
    refine q_asgE (K := K) (ds := [tN []]) (WT.el_lst (ea_d (ed_tup (ds := []) ea_nil (by decide)) ea_nil) (by decide)) fun p0 xs0 H1 hp0 e1 h1 f1 => ?_
    refine q_forR1 (n := (m : Int)) (Evl.ea_cons (ev_var rfl) Evl.ea_nil) ⟨by omega, by omega⟩ (fun t σ' H' => ∃ pf xs z2 z3 z4 z5, σ' = [some (.int (m : Int)), some (.ref pf), z2, z3, z4, z5] ∧ H pf = none ∧ Ex H H' ∧ H' pf = some (.lst xs) ∧ FzL K H' ((everyN m t).map tN) xs) (fun H2 e2 => ?_) (fun t σ' H' ht h => ?_) (fun σ' H' h => ?_)
    · exact ⟨p0, xs0, none, none, none, none, rfl, hp0, e1.trans e2, e2 _ _ h1, fzl_ex e2 f1⟩
    · obtain ⟨pf, xs, z2, z3, z4, z5, rfl, hpf, eX, hx, fx⟩ := h
      have htm : t < m := by omega
      have lsz := every_len hm t
      have psz := pow5 (t := t) (by omega)
      have hxl := fzl_len fx
      rw [List.length_map] at hxl
      refine q_asgL (Evl.el_lst Evl.ea_nil (by decide)) fun la H2 hla e2 h2 => ?_
      refine q_forL (ev_var rfl) (sq_of (e2 _ _ hx)) (fun i σ2 H3 => ∃ ls z4 z5, σ2 = [some (.int (m : Int)), some (.ref pf), some (.int (t : Int)), some (.ref la), z4, z5] ∧ Ex H' H3 ∧ H3 la = some (.lst ls) ∧ FzL K H3 ((((everyN m t).take i).flatMap fun o => (rest m o).map fun x => o ++ [x]).map tN) ls) (fun H3 e3 => ?_) (fun i σ2 H3 _ h => ?_) (fun i x σ2 H3 hxi h => ?_) (fun σ2 H3 h => ?_)
      · exact ⟨[], z4, z5, rfl, e2.trans e3, e3 _ _ h2, fzl_nil⟩
      · obtain ⟨ls, z4, z5, _, eX3, _⟩ := h
        exact sq_of (eX3 _ _ hx)
      · obtain ⟨ls, z4, z5, rfl, eX3, hls, fl⟩ := h
        obtain ⟨d, hd, fo⟩ := fzl_getV fx hxi
        obtain ⟨o, ho, rfl⟩ := map_get hd
        have O := mem_every.mp (List.mem_of_getElem? ho)
        have hil := (List.getElem?_eq_some_iff.mp ho).1
        have tol : ∀ (n : Nat), decide ((n : Int) ∈ o.map fun n : Nat => (n : Int)) = decide (n ∈ o) := fun n => by
          rw [decide_eq_decide, List.mem_map]
          constructor
          · rintro ⟨a, ha, e⟩
            have : a = n := by omega
            exact this ▸ ha
          · exact fun h => ⟨n, h, rfl⟩
        have eo : tN o = .tuple ((o.map fun n : Nat => (n : Int)).map PyData.int) := by
          unfold tN
          rw [List.map_map]
          rfl
        have hbd : (((everyN m t).take i).flatMap fun o => (rest m o).map fun x => o ++ [x]).length ≤ i * 5 := by
          have h0 : ∀ os : List (List Nat), (os.flatMap fun o => (rest m o).map fun x => o ++ [x]).length ≤ os.length * 5 := fun os => by
            refine snoc_ind (P := fun os : List (List Nat) => (os.flatMap fun o => (rest m o).map fun x => o ++ [x]).length ≤ os.length * 5) (Nat.le_refl _) (fun os o ih => ?_) os
            rw [List.flatMap_append, List.length_append, List.length_append]
            have h3 := rest_len m o
            simp at ih ⊢
            omega
          refine Nat.le_trans (h0 _) ?_
          rw [List.length_take]
          omega
        have hrl := rest_len m o
        show tDrop _ _ [some (.int (m : Int)), some (.ref pf), some (.int (t : Int)), some (.ref la), some x, z5] H3
        refine s_extE (K := K) hls (ev_var rfl) (el_filtR (fun p => !decide (p ∈ o)) (fun p => tN (o ++ [p])) (Evl.ea_cons (ev_var rfl) Evl.ea_nil) (by omega) (fun _ => rfl) fun j H5 e5 hj => ⟨et_is (et_test (ev_inT (neg := true) (ev_var rfl) (eo ▸ ed_var rfl (fz_ex (eX3.trans e5) fo)))) (by rw [if_pos rfl, tol]), fun _ => ed_is (ed_catA (ds := o.map fun n : Nat => PyData.int (n : Int)) (es := [.int (j : Int)]) (ed_var rfl (fz_ex (eX3.trans e5) fo)) (ed_tup (ea_d (ed_ev (ev_var rfl) fz_int) ea_nil) (show 1 ≤ 100000 by decide)) ?_) ?_⟩) ?_ fun zs H4 e4 f4 => ?_
        · rw [List.length_map, O.len]
          show t + 1 ≤ 100000
          omega
        · unfold tN
          rw [List.map_append]
          rfl
        · rw [fzl_len fl, List.length_map, List.length_map]
          have : (List.filter (fun p => !decide (p ∈ o)) (List.range m)).length ≤ m := hrl
          omega
        · have tx := (tex_of e4).trans (tex_lst (o := .lst (ls ++ zs)) (e4 _ _ hls))
          refine ⟨_, _, _, rfl, (eX3.trans e4).mut hla, upd_same, ?_⟩
          rw [take_get ho, List.flatMap_append, List.map_append]
          refine fzl_append (FzL.mono tx _ _ fl) ?_
          have e6 : (([o] : List (List Nat)).flatMap fun o => (rest m o).map fun x => o ++ [x]).map tN = ((List.range m).filter fun p => !decide (p ∈ o)).map fun p => tN (o ++ [p]) := by
            simp [rest]
          rw [e6]
          exact FzL.mono (tex_lst (e4 _ _ hls)) _ _ f4
      · obtain ⟨ls, z4, z5, rfl, eX3, hls, fl⟩ := h
        rw [List.take_of_length_le (by omega)] at fl
        exact s_asg (ev_var rfl) fun H4 e4 => ⟨la, ls, _, _, _, _, rfl, fresh_back eX hla, (eX.trans eX3).trans e4, e4 _ _ hls, fzl_ex e4 fl⟩
    · obtain ⟨pf, xs, z2, z3, z4, z5, rfl, hpf, eX, hx, fx⟩ := h
      rw [Int.toNat_natCast] at fx
      exact s_ret (ev_var rfl) fun H2 e2 => k pf xs H2 hpf (eX.trans e2) (e2 _ _ hx) (fzl_ex e2 fx)
end
end WT
/-! What lanes are widened by. -/
namespace WT
open PySem PySem.Spec PyProof.Rows L2 Evl
def movesFrom (p : Nat) (s : List Nat) : Bool := match firstMoved 0 s with
  | some q => decide (p ≤ q)
  | none => false
def keepN (strong : List (List Nat)) (p : Nat) : Nat → List (Nat × List Nat)
  | 0 => []
  | i + 1 => if movesFrom p (strong.getD i []) = true then keepN strong p i ++ [(i, strong.getD i [])] else keepN strong p i
def keepers (strong : List (List Nat)) (p : Nat) : List (Nat × List Nat) := keepN strong p strong.length
theorem keepN_mem {strong : List (List Nat)} {p : Nat} : ∀ {i : Nat} {e : Nat × List Nat}, e ∈ keepN strong p i ↔ e.1 < i ∧ e.2 = strong.getD e.1 [] ∧ movesFrom p e.2 = true
  | 0, e => ⟨fun h => (by cases h), fun h => absurd h.1 (Nat.not_lt_zero _)⟩
  | i + 1, e => by
    unfold keepN
    split
    · rename_i hm
      rw [List.mem_append, keepN_mem, List.mem_singleton]
      constructor
      · rintro (⟨h1, h2, h3⟩ | rfl)
        · exact ⟨by omega, h2, h3⟩
        · exact ⟨Nat.lt_succ_self i, rfl, hm⟩
      · rintro ⟨h1, h2, h3⟩
        rcases Nat.lt_or_eq_of_le (Nat.le_of_lt_succ h1) with z | z
        · exact .inl ⟨z, h2, h3⟩
        · exact .inr (Prod.ext z (by rw [h2, z]))
    · rename_i hm
      rw [keepN_mem]
      constructor
      · rintro ⟨h1, h2, h3⟩
        exact ⟨by omega, h2, h3⟩
      · rintro ⟨h1, h2, h3⟩
        rcases Nat.lt_or_eq_of_le (Nat.le_of_lt_succ h1) with z | z
        · exact ⟨z, h2, h3⟩
        · rw [h2, z] at h3
          exact absurd h3 hm
theorem keepN_len (strong : List (List Nat)) (p : Nat) : ∀ i, (keepN strong p i).length ≤ i
  | 0 => Nat.le_refl _
  | i + 1 => by
    have h := keepN_len strong p i
    unfold keepN
    split
    · rw [List.length_append]
      exact Nat.succ_le_succ h
    · omega
theorem keepers_mem {n : Nat} {strong : List (List Nat)} (hst : ∀ s ∈ strong, IsP n s ∧ s ≠ List.range n) {p k : Nat} {s : List Nat} : (k, s) ∈ keepers strong p ↔ strong[k]? = some s ∧ Fix p s := by
  unfold keepers
  rw [keepN_mem]
  have mf : ∀ {s : List Nat}, s ∈ strong → (movesFrom p s = true ↔ Fix p s) := fun {s} hs => by
    obtain ⟨ps, hne⟩ := hst s hs
    unfold movesFrom
    cases hf : firstMoved 0 s with
    | none => exact absurd ((firstMoved_one ps).mp hf) hne
    | some q =>
      rw [← firstMoved_fix ps hf]
      exact decide_eq_true_iff
  constructor
  · rintro ⟨h1, h2, h3⟩
    have e : strong[k]? = some s := by
      rw [show s = strong.getD k [] from h2, List.getD_eq_getElem?_getD, List.getElem?_eq_getElem h1]
      rfl
    exact ⟨e, (mf (List.mem_of_getElem? e)).mp h3⟩
  · rintro ⟨h1, h2⟩
    refine ⟨(List.getElem?_eq_some_iff.mp h1).1, ?_, (mf (List.mem_of_getElem? h1)).mpr h2⟩
    rw [List.getD_eq_getElem?_getD, h1]
    rfl
theorem keepers_sp {n : Nat} {strong : List (List Nat)} (hst : ∀ s ∈ strong, IsP n s ∧ s ≠ List.range n) {p : Nat} {s : List Nat} : s ∈ (keepers strong p).map (·.2) ↔ Sp' strong p s := by
  rw [List.mem_map]
  constructor
  · rintro ⟨⟨k, t⟩, h, rfl⟩
    obtain ⟨h1, h2⟩ := (keepers_mem hst).mp h
    exact ⟨List.mem_of_getElem? h1, h2⟩
  · rintro ⟨h1, h2⟩
    obtain ⟨k, hk⟩ := List.getElem?_of_mem h1
    exact ⟨(k, s), (keepers_mem hst).mpr ⟨hk, h2⟩, rfl⟩
def kD (e : Nat × List Nat) : PyData := .tuple [.int (e.1 : Int), tN e.2]
/-! ### a lane set in the heap -/
section
variable {K : PySem.W.Frag} {C a : Addr} {o : LOwn} {n : Nat} {c : Ch} {H : Hp}
theorem own_ne {o : LOwn} {a : Addr} (nd : (o.all a).Nodup) : (∀ p q : Nat, ∀ x y : Addr, o.dl[p]? = some x → o.dl[q]? = some y → x = y → p = q) ∧ (∀ p q : Nat, ∀ x y : Addr, o.kl[p]? = some x → o.kl[q]? = some y → x = y → p = q) ∧ (∀ x ∈ o.dl, x ∉ o.kl) ∧
    (∀ x ∈ o.dl ++ o.kl, x ≠ a ∧ x ≠ o.dx ∧ x ≠ o.ln ∧ x ≠ o.kn ∧ x ≠ o.sg) ∧ (o.sg ≠ a ∧ o.sg ≠ o.dx ∧ o.sg ≠ o.ln ∧ o.sg ≠ o.kn) := by
  unfold LOwn.all at nd
  obtain ⟨n1, nd⟩ := List.nodup_cons.mp nd
  obtain ⟨n2, nd⟩ := List.nodup_cons.mp nd
  obtain ⟨n3, nd⟩ := List.nodup_cons.mp nd
  obtain ⟨n4, nd⟩ := List.nodup_cons.mp nd
  obtain ⟨n5, nd⟩ := List.nodup_cons.mp nd
  obtain ⟨d1, d2, d3⟩ := List.nodup_append.mp nd
  refine ⟨fun p q x y hx hy e => ?_, fun p q x y hx hy e => ?_, fun x hx hk => d3 x hx x hk rfl, fun x hx => ⟨fun z => n1 ?_, fun z => n2 ?_, fun z => n3 ?_, fun z => n4 ?_, fun z => n5 ?_⟩, fun z => n1 ?_, fun z => n2 ?_, fun z => n3 ?_, fun z => n4 ?_⟩
  · exact (List.getElem?_inj (List.getElem?_eq_some_iff.mp hx).1 d1).mp (by rw [hx, hy, e])
  · exact (List.getElem?_inj (List.getElem?_eq_some_iff.mp hx).1 d2).mp (by rw [hx, hy, e])
  · exact z ▸ List.mem_cons_of_mem _ (List.mem_cons_of_mem _ (List.mem_cons_of_mem _ (List.mem_cons_of_mem _ hx)))
  · exact z ▸ List.mem_cons_of_mem _ (List.mem_cons_of_mem _ (List.mem_cons_of_mem _ hx))
  · exact z ▸ List.mem_cons_of_mem _ (List.mem_cons_of_mem _ hx)
  · exact z ▸ List.mem_cons_of_mem _ hx
  · exact z ▸ hx
  · rw [← z]
    simp
  · rw [← z]
    simp
  · rw [← z]
    simp
  · rw [← z]
    simp
theorem LAt.setLane (L : LAt K C a o n c H) (hc : c.lanes.length = n) {p : Nat} {q : Addr} (hq : o.dl[p]? = some q) {M : LaneT} {kvs : List (Key × V)} (hD : DL K (upd H q (.dK kvs)) M kvs) : LAt K C a o n (c.setLane p M) (upd H q (.dK kvs)) := by
  have hpn : p < n := by
    have := (List.getElem?_eq_some_iff.mp hq).1
    have := L.dn
    omega
  obtain ⟨i1, i2, i3, i4, i5⟩ := own_ne L.nd
  have hqm := List.mem_of_getElem? hq
  obtain ⟨q1, q2, q3, q4, q5⟩ := i4 q (List.mem_append_left _ hqm)
  obtain ⟨kv0, hk0, _⟩ := L.dk p q hq
  have tx : TEx H (upd H q (.dK kvs)) := fun b xs hb => by
    have ne : b ≠ q := fun z => by
      rw [z, hk0] at hb
      cases hb
    rw [upd_ne ne]
    exact hb
  obtain ⟨xs, hs1, hs2⟩ := L.strong
  refine ⟨?_, L.nd, by rw [upd_ne q3.symm]; exact L.lanes, by rw [upd_ne q4.symm]; exact L.known, ⟨xs, by rw [upd_ne q5.symm]; exact hs1, FzL.mono tx _ _ hs2⟩, L.dn, fun p' q' hq' => ?_, L.kn, fun p' q' hq' => ?_⟩
  · rcases L.slt with ⟨h1, h2⟩ | ⟨h1, h2⟩
    · exact .inl ⟨by rw [upd_ne q1.symm]; exact h1, h2⟩
    · exact .inr ⟨by rw [upd_ne q1.symm]; exact h1, by rw [upd_ne q2.symm]; exact h2⟩
  · rw [lane_set (by omega)]
    by_cases e : q' = q
    · subst e
      have := i1 _ _ _ _ hq' hq rfl
      rw [if_pos this]
      exact ⟨kvs, upd_same, hD⟩
    · have hpp : ¬ p' = p := fun z => by
        rw [z, hq] at hq'
        exact e (Option.some.inj hq').symm
      rw [if_neg hpp]
      obtain ⟨kv', hk', hD'⟩ := L.dk p' q' hq'
      exact ⟨kv', by rw [upd_ne e]; exact hk', hD'.tex tx⟩
  · obtain ⟨kv', hk', hD'⟩ := L.kk p' q' hq'
    have e : q' ≠ q := fun z => i3 q hqm (z ▸ List.mem_of_getElem? hq')
    exact ⟨kv', by rw [upd_ne e]; exact hk', hD'⟩
theorem LAt.setKn (L : LAt K C a o n c H) (hc : c.known.length = n) {p : Nat} {q : Addr} (hq : o.kl[p]? = some q) {M : List (Nat × Nat)} {kvs : List (List Key × V)} (hD : KL M kvs) : LAt K C a o n (c.setKn p M) (upd H q (.dT kvs)) := by
  have hpn : p < n := by
    have := (List.getElem?_eq_some_iff.mp hq).1
    have := L.kn
    omega
  obtain ⟨i1, i2, i3, i4, i5⟩ := own_ne L.nd
  have hqm := List.mem_of_getElem? hq
  obtain ⟨q1, q2, q3, q4, q5⟩ := i4 q (List.mem_append_right _ hqm)
  obtain ⟨kv0, hk0, _⟩ := L.kk p q hq
  have tx : TEx H (upd H q (.dT kvs)) := fun b xs hb => by
    have ne : b ≠ q := fun z => by
      rw [z, hk0] at hb
      cases hb
    rw [upd_ne ne]
    exact hb
  obtain ⟨xs, hs1, hs2⟩ := L.strong
  refine ⟨?_, L.nd, by rw [upd_ne q3.symm]; exact L.lanes, by rw [upd_ne q4.symm]; exact L.known, ⟨xs, by rw [upd_ne q5.symm]; exact hs1, FzL.mono tx _ _ hs2⟩, L.dn, fun p' q' hq' => ?_, L.kn, fun p' q' hq' => ?_⟩
  · rcases L.slt with ⟨h1, h2⟩ | ⟨h1, h2⟩
    · exact .inl ⟨by rw [upd_ne q1.symm]; exact h1, h2⟩
    · exact .inr ⟨by rw [upd_ne q1.symm]; exact h1, by rw [upd_ne q2.symm]; exact h2⟩
  · obtain ⟨kv', hk', hD'⟩ := L.dk p' q' hq'
    have e : q' ≠ q := fun z => i3 q' (List.mem_of_getElem? hq') (z ▸ hqm)
    exact ⟨kv', by rw [upd_ne e]; exact hk', hD'.tex tx⟩
  · rw [kn_set (by omega)]
    by_cases e : q' = q
    · subst e
      have := i2 _ _ _ _ hq' hq rfl
      rw [if_pos this]
      exact ⟨kvs, upd_same, hD⟩
    · have hpp : ¬ p' = p := fun z => by
        rw [z, hq] at hq'
        exact e (Option.some.inj hq').symm
      rw [if_neg hpp]
      obtain ⟨kv', hk', hD'⟩ := L.kk p' q' hq'
      exact ⟨kv', by rw [upd_ne e]; exact hk', hD'⟩
theorem LAt.app (L : LAt K C a o n c H) {r : List Nat} {v : V} {xs : List V} (hx : H o.sg = some (.lst xs)) (fx : FzL K H (c.strong.map tN) xs) (fv : Fz K H (tN r) v) : LAt K C a o n (c.app r) (upd H o.sg (.lst (xs ++ [v]))) := by
  obtain ⟨i1, i2, i3, i4, j1, j2, j3, j4⟩ := own_ne L.nd
  have tx : TEx H (upd H o.sg (.lst (xs ++ [v]))) := tex_lst hx
  refine ⟨?_, L.nd, by rw [upd_ne j3.symm]; exact L.lanes, by rw [upd_ne j4.symm]; exact L.known, ⟨xs ++ [v], upd_same, ?_⟩, L.dn, fun p' q' hq' => ?_, L.kn, fun p' q' hq' => ?_⟩
  · rcases L.slt with ⟨h1, h2⟩ | ⟨h1, h2⟩
    · exact .inl ⟨by rw [upd_ne j1.symm]; exact h1, h2⟩
    · exact .inr ⟨by rw [upd_ne j1.symm]; exact h1, by rw [upd_ne j2.symm]; exact h2⟩
  · show FzL K _ ((c.strong ++ [r]).map tN) _
    rw [List.map_append]
    exact fzl_append (FzL.mono tx _ _ fx) (fzl_cons (Fz.mono tx _ _ fv) fzl_nil)
  · obtain ⟨kv', hk', hD'⟩ := L.dk p' q' hq'
    have e := (i4 q' (List.mem_append_left _ (List.mem_of_getElem? hq'))).2.2.2.2
    exact ⟨kv', by rw [upd_ne e]; exact hk', hD'.tex tx⟩
  · obtain ⟨kv', hk', hD'⟩ := L.kk p' q' hq'
    have e := (i4 q' (List.mem_append_right _ (List.mem_of_getElem? hq'))).2.2.2.2
    exact ⟨kv', by rw [upd_ne e]; exact hk', hD'⟩
/-- a list or another object outside the parts is changed -/
theorem LAt.away (L : LAt K C a o n c H) {q : Addr} {u : HO} (hq : q ∉ o.all a) (tx : TEx H (upd H q u)) : LAt K C a o n c (upd H q u) := by
  unfold LOwn.all at hq
  simp only [List.mem_cons, List.mem_append, not_or] at hq
  obtain ⟨m1, m2, m3, m4, m5, m6, m7⟩ := hq
  obtain ⟨xs, hs1, hs2⟩ := L.strong
  refine ⟨?_, L.nd, by rw [upd_ne (fun z => m3 z.symm)]; exact L.lanes, by rw [upd_ne (fun z => m4 z.symm)]; exact L.known, ⟨xs, by rw [upd_ne (fun z => m5 z.symm)]; exact hs1, FzL.mono tx _ _ hs2⟩, L.dn, fun p' q' hq' => ?_, L.kn, fun p' q' hq' => ?_⟩
  · rcases L.slt with ⟨h1, h2⟩ | ⟨h1, h2⟩
    · exact .inl ⟨by rw [upd_ne (fun z => m1 z.symm)]; exact h1, h2⟩
    · exact .inr ⟨by rw [upd_ne (fun z => m1 z.symm)]; exact h1, by rw [upd_ne (fun z => m2 z.symm)]; exact h2⟩
  · obtain ⟨kv', hk', hD'⟩ := L.dk p' q' hq'
    have e : q' ≠ q := fun z => m6 (z ▸ List.mem_of_getElem? hq')
    exact ⟨kv', by rw [upd_ne e]; exact hk', hD'.tex tx⟩
  · obtain ⟨kv', hk', hD'⟩ := L.kk p' q' hq'
    have e : q' ≠ q := fun z => m7 (z ▸ List.mem_of_getElem? hq')
    exact ⟨kv', by rw [upd_ne e]; exact hk', hD'⟩
/-- a fresh address is none of the parts -/
theorem LAt.fresh (L : LAt K C a o n c H) {q : Addr} (h : H q = none) : q ∉ o.all a := fun hm => by
  unfold LOwn.all at hm
  rcases List.mem_cons.mp hm with z | hm
  · subst z
    rcases L.slt with ⟨h1, _⟩ | ⟨h1, _⟩ <;> rw [h] at h1 <;> cases h1
  · rcases List.mem_cons.mp hm with z | hm
    · subst z
      rcases L.slt with ⟨_, h2⟩ | ⟨_, h2⟩
      · cases h2
      · rw [h] at h2
        cases h2
    · rcases List.mem_cons.mp hm with z | hm
      · subst z
        rw [L.lanes] at h
        cases h
      · rcases List.mem_cons.mp hm with z | hm
        · subst z
          rw [L.known] at h
          cases h
        · rcases List.mem_cons.mp hm with z | hm
          · subst z
            obtain ⟨ys, h1, _⟩ := L.strong
            rw [h1] at h
            cases h
          · rcases List.mem_append.mp hm with z | z
            · obtain ⟨i, hi⟩ := List.getElem?_of_mem z
              obtain ⟨kvs, h1, _⟩ := L.dk i _ hi
              rw [h1] at h
              cases h
            · obtain ⟨i, hi⟩ := List.getElem?_of_mem z
              obtain ⟨kvs, h1, _⟩ := L.kk i _ hi
              rw [h1] at h
              cases h
end
end WT
/-! The class Lanes, read. -/
namespace WT
open PySem PySem.Spec PyProof.Rows L2 Evl
abbrev s_told_then : Stmt := top 11
abbrev N_told_then : List Str := ["one", "other", "place"]
theorem sc_told_then : FnScope N_told_then ["one", "other"] (defScope s_told_then) := ⟨rfl, rfl, rfl, by decide +kernel, rfl, by decide +kernel, by decide +kernel⟩
/-- one position, then another -/
def rThen (as : List Ag) (d : PyData) : Prop := ∃ (n : Nat) (u v : List Nat), as = [.d (tN u), .d (tN v)] ∧ n ≤ 1000 ∧ IsP n u ∧ IsP n v ∧ d = tN (thn u v)
section
variable {P : Program} {w : World} {K : PySem.W.Frag} {mg : Str → Option Value} {base : Heap}
theorem ok_told_then (B : Bt mg) (d : DefIn K mg "told_then" ["one", "other"] s_told_then) : Okd P w K mg base "told_then" ["one", "other"] s_told_then 1 (spD K 2 rThen) := by
  refine Okd.mk d sc_told_then (fun vs H Q E h => spD_len h) (fun f cdv A outer s H vs Q E hr h => ?_)
  obtain ⟨as, d, _, hv, ⟨n, p, q, rfl, hn, hp, hq, rfl⟩, k⟩ := h
  obtain ⟨y, z, rfl, hy, hz⟩ := agl2 hv
  replace hy := agd hy
  replace hz := agd hz
  have hl := isP_len hp
  refine ⟨_, (pss_one (ps_ret (pe_callTy call_tuple_of (by rfl) B.tuple boot_tuple (pa_cons (pe_lc (own := [("place", 2)]) rfl sc_told_then.nd (pi_tup (pv 0)) (blkOk_by (own := [("place", 2)]) (N := N_told_then) (sc := defScope s_told_then) (by decide +kernel)) (fun _ _ _ _ _ => pg_name (i := 2) sc_told_then.nd rfl (Or.inl rfl)) (fun _ _ _ _ _ => pts_nil) (fun _ _ _ _ _ => (pe_ix (xK (K := K) (r := rIxT) ix_tup rfl) (pv 1) (pv 2) (fun _ _ => rfl)))) pa_nil)))), ?_⟩
  refine s_retD (ed_tupOf (el_mapT (es := (thn p q).map fun n : Nat => PyData.int (n : Int)) (ed_var rfl hy) (by rw [List.length_map]; omega) (by rw [List.length_map, List.length_map, thn_len]) (fun _ => rfl) fun i x d e H1 e1 hd he f => ?_)) fun v H1 e1 f => k v H1 e1 f
  obtain ⟨a, ha, rfl⟩ := tN_get hd
  obtain ⟨b, hb, rfl⟩ := tN_get he
  have hx := fz_intI f
  subst hx
  have ham := perm_lt hp ha
  have hil := (List.getElem?_eq_some_iff.mp ha).1
  have eb : b = ap q a := by
    have h1 := ap_thn (v := q) hil
    rw [ap_of hb, ap_of ha] at h1
    exact h1
  subst eb
  exact ed_ixT (ed_var rfl (fz_ex e1 hz)) (ev_var rfl) (rNs_get (ap_get (by rw [isP_len hq]; exact ham)))
end
abbrev s_told_undone : Stmt := top 12
abbrev N_told_undone : List Str := ["position", "found", "place", "to"]
theorem sc_told_undone : FnScope N_told_undone ["position"] (defScope s_told_undone) := ⟨rfl, rfl, rfl, by decide +kernel, rfl, by decide +kernel, by decide +kernel⟩
/-- a position undone -/
def rUnd (as : List Ag) (d : PyData) : Prop := ∃ (n : Nat) (u : List Nat), as = [.d (tN u)] ∧ n ≤ 1000 ∧ IsP n u ∧ d = tN (invN n u)
section
variable {P : Program} {w : World} {K : PySem.W.Frag} {mg : Str → Option Value} {base : Heap}
theorem ok_told_undone (B : Bt mg) (d : DefIn K mg "told_undone" ["position"] s_told_undone) : Okd P w K mg base "told_undone" ["position"] s_told_undone 1 (spD K 1 rUnd) := by
  refine Okd.mk d sc_told_undone (fun vs H Q E h => spD_len h) (fun f cdv A outer s H vs Q E hr h => ?_)
  obtain ⟨as, d, _, hv, ⟨m, o, rfl, hm, ho, rfl⟩, k⟩ := h
  obtain ⟨y, rfl, hy⟩ := agl1 hv
  replace hy := agd hy
  have hl := perm_len ho
  refine ⟨_, (pss_cons (ps_set (i := 1) sc_told_undone.nd rfl (Or.inl rfl) (pe_op op_rep (pe_lst (pa_cons pe_int pa_nil)) (pe_callB call_len_seq (by rfl) B.len boot_len (pa_cons (pv 0) pa_nil))))
      (pss_cons (ps_for PassesOwn.never rfl (pi_enumT (by rfl) B.enumerate (pa_cons (pv 0) pa_nil)) (pg_tup (by rfl) (pgs_cons (pg_name (i := 2) sc_told_undone.nd rfl (Or.inl rfl)) (pgs_cons (pg_name (i := 3) sc_told_undone.nd rfl (Or.inl rfl)) pgs_nil))) (pss_one (ps_asg (pv 2) (pg_sub (pv 1) (pv 3) set_list))))
      (pss_one (ps_ret (pe_callTy call_tuple_of (by rfl) B.tuple boot_tuple (pa_cons (pv 1) pa_nil)))))), ?_⟩
  refine q_asgE (K := K) (ds := List.replicate m (.int ((0 : Nat) : Int))) (el_rep (WT.el_lst (ea_d (ed_ev ev_c fz_int) ea_nil) (by decide)) (ev_is (ev_lenT (ed_var rfl hy)) (by rw [List.length_map, hl])) (by omega)) fun l xs H1 hl0 e1 h1 f1 => ?_
  have hx1 : xs = vN (List.replicate m 0) := by
    exact (fzl_nats (K := K) (H := H1) (ns := List.replicate m 0)).mp (by rw [List.map_replicate]; exact f1)
  subst hx1
  refine q_forEn (ed_var rfl (fz_ex e1 hy)) fun H2 e2 => ⟨fun i σ' H' => (∃ z2 z3, σ' = [some y, some (.ref l), z2, z3]) ∧ TEx H2 H' ∧ Ex H H' ∧ ∃ F, H' l = some (.lst (vN F)) ∧ F.length = m ∧ ∀ j a, j < i → o[j]? = some a → F[a]? = some j,
    ⟨⟨none, none, rfl⟩, TEx.refl _, e1.trans e2, List.replicate m 0, e2 _ _ h1, List.length_replicate, fun j a hj => absurd hj (Nat.not_lt_zero _)⟩, fun i σ' H' h => h.2.1, ?_, ?_⟩
  · rintro i x d σ' H' H'' hd eH hx ⟨⟨z2, z3, rfl⟩, tx, eX, F, hF, hFl, inv⟩
    obtain ⟨a, ha, rfl⟩ := tN_get hd
    have hxx := fz_intI hx
    subst hxx
    have ham := perm_lt ho ha
    refine s_setL (v := .int (i : Int)) (eH _ _ hF) (ev_var rfl) (ev_var rfl) (ev_var rfl) (by rw [vN_len, hFl]; exact ham) fun H3 e3 => ⟨⟨_, _, rfl⟩, (tx.trans (tex_of (eH.trans e3))).trans (tex_lst (e3 _ _ (eH _ _ hF))), (eX.trans (eH.trans e3)).mut hl0, F.set a i, ?_, by rw [List.length_set, hFl], fun j b hj hb => ?_⟩
    · unfold vN
      rw [List.map_set]
      exact upd_same
    · rw [List.getElem?_set]
      by_cases hab : a = b
      · subst hab
        have hij : i = j := (List.getElem?_inj (List.getElem?_eq_some_iff.mp ha).1 (perm_nd ho)).mp (by rw [ha, hb])
        subst hij
        rw [if_pos rfl, if_pos (by omega)]
      · rw [if_neg hab]
        refine inv j b ?_ hb
        rcases Nat.lt_or_eq_of_le (Nat.le_of_lt_succ hj) with z | z
        · exact z
        · subst z
          rw [ha] at hb
          exact absurd (Option.some.inj hb) hab
  · rintro σ' H' ⟨⟨z2, z3, rfl⟩, tx, eX, F, hF, hFl, inv⟩
    have e : F = invN m o := tab_of hFl fun x hx => by
      obtain ⟨h1, h2⟩ := idx_lt ho hx
      exact inv _ _ (by rw [List.length_map]; omega) h2
    refine s_retD (K := K) (ed_tupOfL (ev_var rfl) (sq_of hF) (fzl_nats.mpr rfl)) fun v H3 e3 f => k v H3 (eX.trans e3) ?_
    rw [← e]
    exact f
end
abbrev s_nothing : Stmt := top 10
abbrev N_nothing : List Str := ["many"]
theorem sc_nothing : FnScope N_nothing ["many"] (defScope s_nothing) := ⟨rfl, rfl, rfl, by decide +kernel, rfl, by decide +kernel, by decide +kernel⟩
def rNothing (as : List Ag) (d : PyData) : Prop := ∃ n : Nat, as = [.v (.int (n : Int))] ∧ n ≤ 1000 ∧ d = tN (List.range n)
section
variable {P : Program} {w : World} {K : PySem.W.Frag} {mg : Str → Option Value} {base : Heap}
theorem ok_nothing (B : Bt mg) (d : DefIn K mg "nothing" ["many"] s_nothing) : Okd P w K mg base "nothing" ["many"] s_nothing 1 (spD K 1 rNothing) := by
  refine Okd.mk d sc_nothing (fun vs H Q E h => spD_len h) (fun f cdv A outer s H vs Q E hr h => ?_)
  obtain ⟨as, d, _, hv, ⟨n, rfl, hn, rfl⟩, k⟩ := h
  obtain ⟨_, rfl, rfl⟩ := agl1 hv
  refine ⟨_, (pss_one (ps_ret (pe_tupRg rfl (by rfl) B.tuple (prg_1 (by rfl) B.range (pv 0))))), ?_⟩
  exact s_retD (ed_tupRg (ev_var rfl) (by omega)) fun v H1 e1 f => k v H1 e1 f
end
/-- what the class Lanes has -/
structure LCls (K : PySem.W.Frag) (C : Addr) : Prop where
  cl : SlX.SCls K C
  amount : ∃ p, SlX.Slot1 K C "amount" p 0
  known : ∃ p, SlX.Slot1 K C "known" p 1
  lanes : ∃ p, SlX.Slot1 K C "lanes" p 2
  strong : ∃ p, SlX.Slot1 K C "strong" p 3
section
variable {K : PySem.W.Frag} {C a : Addr} {o : LOwn} {n : Nat} {c : Ch} {H : Hp} {σ : L2.St} {ta : TE}
theorem ev_amount (c_Lanes : LCls K C) (L : LAt K C a o n c H) (h : Ev ta σ H (.ref a)) : Ev (SlX.tSl K ta "amount") σ H (.int (n : Int)) := by
  obtain ⟨p, hp⟩ := c_Lanes.amount
  exact ev_attr h L.slt c_Lanes.cl hp rfl
theorem ev_known (c_Lanes : LCls K C) (L : LAt K C a o n c H) (h : Ev ta σ H (.ref a)) : Ev (SlX.tSl K ta "known") σ H (.ref o.kn) := by
  obtain ⟨p, hp⟩ := c_Lanes.known
  exact ev_attr h L.slt c_Lanes.cl hp rfl
theorem ev_lanes (c_Lanes : LCls K C) (L : LAt K C a o n c H) (h : Ev ta σ H (.ref a)) : Ev (SlX.tSl K ta "lanes") σ H (.ref o.ln) := by
  obtain ⟨p, hp⟩ := c_Lanes.lanes
  exact ev_attr h L.slt c_Lanes.cl hp rfl
theorem ev_strong (c_Lanes : LCls K C) (L : LAt K C a o n c H) (h : Ev ta σ H (.ref a)) : Ev (SlX.tSl K ta "strong") σ H (.ref o.sg) := by
  obtain ⟨p, hp⟩ := c_Lanes.strong
  exact ev_attr h L.slt c_Lanes.cl hp rfl
/-- self.lanes[p] -/
theorem ev_laneAt (c_Lanes : LCls K C) (L : LAt K C a o n c H) (h : Ev ta σ H (.ref a)) {tb : TE} {p : Nat} {q : Addr} (hb : Ev tb σ H (.int (p : Int))) (hq : o.dl[p]? = some q) : Ev (tOp (rIxL K) (SlX.tSl K ta "lanes") tb) σ H (.ref q) :=
  ev_op (ev_lanes c_Lanes L h) hb (rv_ixL (sq_of L.lanes) (atI_of (by rw [List.getElem?_map, hq]; rfl)))
theorem ev_knownAt (c_Lanes : LCls K C) (L : LAt K C a o n c H) (h : Ev ta σ H (.ref a)) {tb : TE} {p : Nat} {q : Addr} (hb : Ev tb σ H (.int (p : Int))) (hq : o.kl[p]? = some q) : Ev (tOp (rIxL K) (SlX.tSl K ta "known") tb) σ H (.ref q) :=
  ev_op (ev_known c_Lanes L h) hb (rv_ixL (sq_of L.known) (atI_of (by rw [List.getElem?_map, hq]; rfl)))
/-- x not in lane -/
theorem ev_notinD {ty td : TE} {x : Nat} {q : Addr} {kvs : List (Key × V)} {M : LaneT} (hy : Ev ty σ H (.int (x : Int))) (hd : Ev td σ H (.ref q)) (hk : H q = some (.dK kvs)) (hD : DL K H M kvs) : Ev (tDNotIn ty td) σ H (.bl (look M x).isNone) := fun H1 e Q k =>
  hy H1 e _ fun H2 e2 => hd H2 (e.trans e2) _ fun H3 e3 => ⟨q, valV kvs (Sum.inl (x : Int) : Key), rfl, DGet.k (k := (Sum.inl (x : Int) : Key)) ((e.trans (e2.trans e3)) _ _ hk), by
    have hk2 := k H3 (e2.trans e3)
    obtain ⟨g1, g2⟩ := hD.get x
    cases hl : look M x with
    | none =>
      rw [g1 hl]
      rw [hl] at hk2
      exact hk2
    | some u =>
      obtain ⟨v, hv, _⟩ := g2 u hl
      rw [hv]
      rw [hl] at hk2
      exact hk2⟩
/-- lane[x] -/
theorem ed_getD {ty td : TE} {x : Nat} {q : Addr} {kvs : List (Key × V)} {M : LaneT} {u : List Nat} (hd : Ev td σ H (.ref q)) (hy : Ev ty σ H (.int (x : Int))) (hk : H q = some (.dK kvs)) (hD : DL K H M kvs) (hl : look M x = some u) : Ed K (tDGet td ty) σ H (tN u) := fun H1 e Q k =>
  hd H1 e _ fun H2 e2 => hy H2 (e.trans e2) _ fun H3 e3 => by
    obtain ⟨_, g2⟩ := hD.get x
    obtain ⟨v, hv, fv⟩ := g2 u hl
    refine ⟨q, v, rfl, ?_, k v H3 (e2.trans e3) (fz_ex ((e.trans e2).trans e3) fv)⟩
    rw [← hv]
    exact DGet.k (k := (Sum.inl (x : Int) : Key)) ((e.trans (e2.trans e3)) _ _ hk)
end
/-- None, or the first place moved -/
def fmD (u : List Nat) : PyData := match firstMoved 0 u with
  | none => .none
  | some q => .int (q : Int)
def spFirst (K : PySem.W.Frag) : Sp := fun vs H Q _ => ∃ (x v : V) (u : List Nat), vs = [x, v] ∧ u.length ≤ 1000 ∧ Fz K H (tN u) v ∧ ∀ v' H', Ex H H' → Fz K H' (fmD u) v' → Q v' H'
def spSift (K : PySem.W.Frag) (C : Addr) : Sp := fun vs H Q _ => ∃ (a : Addr) (o : LOwn) (n : Nat) (c : Ch) (v : V) (u : List Nat) (p : Nat), vs = [.ref a, v, .int (p : Int)] ∧ LAt K C a o n c H ∧ ChOk n c ∧ n ≤ 1000 ∧ Fz K H (tN u) v ∧ IsP n u ∧ p ≤ n ∧
  ∀ v' H', Ex H H' → Fz K H' (tN (sift n c p u)) v' → Q v' H'
abbrev s_Lanes_first_moved : Stmt := inClass (top 14) 2
abbrev N_Lanes_first_moved : List Str := ["self", "position", "place", "to"]
theorem sc_Lanes_first_moved : FnScope N_Lanes_first_moved ["self", "position"] (defScope s_Lanes_first_moved) := ⟨rfl, rfl, rfl, by decide +kernel, rfl, by decide +kernel, by decide +kernel⟩
section
variable {P : Program} {w : World} {K : PySem.W.Frag} {mg : Str → Option Value} {base : Heap} {C : Addr}
theorem ok_Lanes_first_moved (B : Bt mg) (d : MethIn K C "first_moved" "Lanes.first_moved" ["self", "position"] s_Lanes_first_moved) : Okm P w K mg base C "first_moved" 1 (spFirst K) := by
  refine Okm.mk d sc_Lanes_first_moved (fun vs H Q E h => ?_) (fun f cdv A outer s H vs Q E hr h => ?_)
  · obtain ⟨x, v, u, rfl, _⟩ := h
    rfl
  · obtain ⟨x, v, u, rfl, hl, hv, k⟩ := h
    refine ⟨_, (pss_cons (ps_for PassesOwn.never rfl (pi_enumT (by rfl) B.enumerate (pa_cons (pv 1) pa_nil)) (pg_tup (by rfl) (pgs_cons (pg_name (i := 2) sc_Lanes_first_moved.nd rfl (Or.inl rfl)) (pgs_cons (pg_name (i := 3) sc_Lanes_first_moved.nd rfl (Or.inl rfl)) pgs_nil))) (pss_one (ps_if (pt_cmpR op_ne (pv 2) (pv 3) (nomark _)) (pss_one (ps_ret (pv 2))) pss_nil)))
      (pss_one (ps_ret pe_non))), ?_⟩
    refine q_forEn (ed_var rfl hv) fun H1 e1 => ⟨fun i σ' H' => (∃ z2 z3, σ' = [some x, some v, z2, z3]) ∧ TEx H1 H' ∧ Ex H H' ∧ ∀ j y, j < i → u[j]? = some y → y = j, ⟨⟨none, none, rfl⟩, TEx.refl _, e1, fun j y hj => absurd hj (Nat.not_lt_zero _)⟩, fun i σ' H' h => h.2.1, ?_, ?_⟩
    · rintro i y d σ' H' H'' hd eH hy ⟨⟨z2, z3, rfl⟩, tx, eX, inv⟩
      obtain ⟨b, hb, rfl⟩ := tN_get hd
      have hyy := fz_intI hy
      subst hyy
      refine s_when (b := !decide (V.int (i : Int) = V.int (b : Int))) (et_test (ev_op (ev_var rfl) (ev_var rfl) (rv_ne rfl))) (fun hne H2 e2 => ?_) (fun hne H2 e2 => ?_)
      · have hbi : b ≠ i := fun z => by
          subst z
          rw [decide_eq_true rfl] at hne
          cases hne
        have hf : firstMoved 0 u = some i := by
          cases hq : firstMoved 0 u with
          | none =>
            have := (firstMoved_iff u 0).1.mp hq i b hb
            omega
          | some q =>
            obtain ⟨_, x2, h2, h3, h4⟩ := (firstMoved_iff u 0).2 q hq
            rw [Nat.sub_zero] at h2 h4
            rcases Nat.lt_trichotomy q i with z | z | z
            · exact absurd (inv q x2 z h2) h3
            · rw [z]
            · have := h4 i b z hb
              omega
        refine s_ret (ev_var rfl) fun H3 e3 => k _ H3 (eX.trans (eH.trans (e2.trans e3))) ?_
        unfold fmD
        rw [hf]
        exact fz_int
      · have hbi : b = i := by
          have h1 : V.int (i : Int) = V.int (b : Int) := Classical.byContradiction fun z => by
            rw [decide_eq_false z] at hne
            cases hne
          injection h1 with h1
          omega
        refine ⟨⟨_, _, rfl⟩, tx.trans (tex_of (eH.trans e2)), eX.trans (eH.trans e2), fun j y hj hy => ?_⟩
        rcases Nat.lt_or_eq_of_le (Nat.le_of_lt_succ hj) with z | z
        · exact inv j y z hy
        · subst z
          rw [hb] at hy
          rw [← Option.some.inj hy, hbi]
    · rintro σ' H' ⟨⟨z2, z3, rfl⟩, tx, eX, inv⟩
      rw [List.length_map] at inv
      have hf : firstMoved 0 u = none := (firstMoved_iff u 0).1.mpr fun j y hj => by
        have := inv j y (List.getElem?_eq_some_iff.mp hj).1 hj
        omega
      refine s_ret ev_c fun H3 e3 => k _ H3 (eX.trans e3) ?_
      unfold fmD
      rw [hf]
      exact fz_non
end
abbrev s_Lanes_sifted : Stmt := inClass (top 14) 3
abbrev N_Lanes_sifted : List Str := ["self", "position", "start", "place", "lane"]
theorem sc_Lanes_sifted : FnScope N_Lanes_sifted ["self", "position", "start"] (defScope s_Lanes_sifted) := ⟨rfl, rfl, rfl, by decide +kernel, rfl, by decide +kernel, by decide +kernel⟩
section
variable {P : Program} {w : World} {K : PySem.W.Frag} {mg : Str → Option Value} {base : Heap} {C : Addr}
theorem ok_Lanes_sifted (B : Bt mg) (c_Lanes : LCls K C) (o_told_then : Okd P w K mg base "told_then" ["one", "other"] s_told_then 1 (spD K 2 rThen)) (o_told_undone : Okd P w K mg base "told_undone" ["position"] s_told_undone 1 (spD K 1 rUnd))
    (d : MethIn K C "sifted" "Lanes.sifted" ["self", "position", "start"] s_Lanes_sifted) : Okm P w K mg base C "sifted" 2 (spSift K C) := by
  refine Okm.mk d sc_Lanes_sifted (fun vs H Q E h => ?_) (fun f cdv A outer s H vs Q E hr h => ?_)
  · obtain ⟨a, o, n, c, v, u, p, rfl, _⟩ := h
    rfl
  · obtain ⟨a, o, n, c, v, u, p, rfl, L, hc, hn, hv, hu, hp, k⟩ := h
    refine ⟨_, (pss_cons (ps_for PassesOwn.never rfl (pi_range2 (by rfl) B.range (pa_cons (pv 2) (pa_cons (SlX.pe_sl (pv 0)) pa_nil))) (pg_name (i := 3) sc_Lanes_sifted.nd rfl (Or.inl rfl)) (pss_cons (ps_set (i := 4) sc_Lanes_sifted.nd rfl (Or.inl rfl) (pe_ix ix_list (SlX.pe_sl (pv 0)) (pv 3) (fun _ _ => rfl)))
        (pss_cons (ps_if (pt_cmp (pc_dnotin (room1 hr) (pe_ix ix_tup (pv 1) (pv 3) (fun _ _ => rfl)) (pv 4)) (by rfl)) (pss_one (ps_ret (pv 1))) pss_nil)
        (pss_one (ps_set (i := 1) sc_Lanes_sifted.nd rfl (Or.inl rfl) (pe_fn o_told_then (hr.mono (by decide)) (pa_cons (pv 1) (pa_cons (pe_fn o_told_undone (hr.mono (by decide)) (pa_cons (pe_dget (room1 hr) (pv 4) (pe_ix ix_tup (pv 1) (pv 3) (fun _ _ => rfl)) (fun _ _ => rfl)) pa_nil)) pa_nil))))))))
      (pss_one (ps_ret (pv 1)))), ?_⟩
    refine q_forR2 (lo := (p : Int)) (n := (n : Int)) (Evl.ea_cons (ev_var rfl) (Evl.ea_cons (ev_amount c_Lanes L (ev_var rfl)) Evl.ea_nil)) ⟨by omega, by omega, by omega, by omega⟩ (fun i σ' H' => (∃ v2 u2 z3 z4, σ' = [some (.ref a), some v2, some (.int (p : Int)), z3, z4] ∧ Fz K H' (tN u2) v2 ∧ IsP n u2 ∧ sift n c (p + i) u2 = sift n c p u) ∧ Ex H H') (fun H1 e1 => ?_) (fun i σ' H' hi h => ?_) (fun σ' H' h => ?_)
    · exact ⟨⟨v, u, none, none, rfl, fz_ex e1 hv, hu, rfl⟩, e1⟩
    · obtain ⟨⟨v2, u2, z3, z4, rfl, hv2, hu2, hs⟩, eX⟩ := h
      have hpi : p + i < n := by omega
      have ei : (p : Int) + (i : Int) = ((p + i : Nat) : Int) := by omega
      rw [ei]
      have L1 := L.ex eX
      obtain ⟨q, hq⟩ : ∃ q, o.dl[p + i]? = some q := ⟨_, List.getElem?_eq_getElem (by rw [L.dn]; exact hpi)⟩
      obtain ⟨kvs, hk, hD⟩ := L1.dk _ _ hq
      refine q_asg (ev_laneAt c_Lanes L1 (ev_var rfl) (ev_var rfl) hq) fun H2 e2 => ?_
      have hx : (rNs u2)[p + i]? = some (.int ((ap u2 (p + i) : Nat) : Int)) := rNs_get (ap_get (by rw [isP_len hu2]; exact hpi))
      have hpos : ∀ {σ : L2.St} {H3 : Hp}, Ex H2 H3 → σ[1]? = some (some v2) → σ[3]? = some (some (.int ((p + i : Nat) : Int))) → Ev (tOp (rIxT K) (tVar 1) (tVar 3)) σ H3 (.int ((ap u2 (p + i) : Nat) : Int)) := fun e h1 h3 => ev_int (ed_ixT (ed_var h1 (fz_ex (e2.trans e) hv2)) (ev_var h3) hx)
      rw [sift_step hc hpi] at hs
      refine q_when (b := (look (c.lane (p + i)) (ap u2 (p + i))).isNone) (et_B (ev_notinD (hpos (Ex.refl _) rfl rfl) (ev_var rfl) (e2 _ _ hk) (hD.tex (tex_of e2)))) (fun hb H3 e3 => ?_) (fun hb H3 e3 => ?_)
      · cases hl : look (c.lane (p + i)) (ap u2 (p + i)) with
        | some w =>
          rw [hl] at hb
          cases hb
        | none =>
          rw [hl] at hs
          exact s_retD (ed_var rfl (fz_ex (e2.trans e3) hv2)) fun v4 H4 e4 f => k v4 H4 (eX.trans ((e2.trans e3).trans e4)) (by rw [← hs]; exact f)
      · cases hl : look (c.lane (p + i)) (ap u2 (p + i)) with
        | none =>
          rw [hl] at hb
          cases hb
        | some w =>
          rw [hl] at hs
          obtain ⟨pw, _, _, _⟩ := (hc.ok _ hpi).el _ _ (look_mem hl)
          refine s_asgD (d := tN (thn u2 (invN n w))) (ed_call (ea_d (ed_var rfl (fz_ex (e2.trans e3) hv2)) (ea_d (ed_call (ea_d (ed_getD (ev_var rfl) (hpos e3 rfl rfl) ((e2.trans e3) _ _ hk) (hD.tex (tex_of (e2.trans e3))) hl) ea_nil) (pr_D ⟨n, w, rfl, hn, pw, rfl⟩)) ea_nil)) (pr_D ⟨n, u2, invN n w, rfl, hn, hu2, und_isP pw, rfl⟩)) fun v4 H4 e4 f4 => ⟨⟨v4, _, _, _, rfl, f4, thn_isP hu2 (und_isP pw), hs⟩, eX.trans ((e2.trans e3).trans e4)⟩
    · obtain ⟨⟨v2, u2, z3, z4, rfl, hv2, hu2, hs⟩, eX⟩ := h
      have e : p + ((n : Int) - (p : Int)).toNat = n := by omega
      rw [e, sift_end hc] at hs
      exact s_retD (ed_var rfl hv2) fun v4 H4 e4 f => k v4 H4 (eX.trans e4) (by rw [← hs]; exact f)
end
abbrev s_Lanes_keepers : Stmt := inClass (top 14) 6
abbrev N_Lanes_keepers : List Str := ["self", "place", "at", "one"]
theorem sc_Lanes_keepers : FnScope N_Lanes_keepers ["self", "place"] (defScope s_Lanes_keepers) := ⟨rfl, rfl, rfl, by decide +kernel, rfl, by decide +kernel, by decide +kernel⟩
/-- a new list of the strong ones from p on, with their numbers -/
def spKeep (K : PySem.W.Frag) (C : Addr) : Sp := fun vs H Q _ => ∃ (a : Addr) (o : LOwn) (n : Nat) (c : Ch) (p : Nat), vs = [.ref a, .int (p : Int)] ∧ LAt K C a o n c H ∧ ChOk n c ∧ n ≤ 100 ∧ c.strong.length ≤ 20000 ∧
  ∀ q xs H', H q = none → Ex H H' → H' q = some (.lst xs) → FzL K H' ((keepers c.strong p).map kD) xs → Q (.ref q) H'
section
variable {P : Program} {w : World} {K : PySem.W.Frag} {mg : Str → Option Value} {base : Heap} {C : Addr}
theorem ok_Lanes_keepers (B : Bt mg) (c_Lanes : LCls K C) (o_Lanes_first_moved : Okm P w K mg base C "first_moved" 1 (spFirst K)) (d : MethIn K C "keepers" "Lanes.keepers" ["self", "place"] s_Lanes_keepers) : Okm P w K mg base C "keepers" 2 (spKeep K C) := by
  refine Okm.mk d sc_Lanes_keepers (fun vs H Q E h => ?_) (fun f cdv A outer s H vs Q E hr h => ?_)
  · obtain ⟨a, o, n, c, p, rfl, _⟩ := h
    rfl
  · obtain ⟨a, o, n, c, p, rfl, L, hc, hn, hsz, k⟩ := h
    obtain ⟨xs, hx, fx⟩ := L.strong
    refine ⟨_, (pss_one (ps_ret (pe_lc (own := [("at", 2), ("one", 3)]) rfl sc_Lanes_keepers.nd (pi_enum (by rfl) B.enumerate (pa_cons (SlX.pe_sl (pv 0)) pa_nil)) (blkOk_by (own := [("at", 2), ("one", 3)]) (N := N_Lanes_keepers) (sc := defScope s_Lanes_keepers) (by decide +kernel)) (fun _ _ _ _ _ => pg_tupK (K := K) (n := 2) (by rfl) (pgs_cons (pg_name (i := 2) sc_Lanes_keepers.nd rfl (Or.inl rfl)) (pgs_cons (pg_name (i := 3) sc_Lanes_keepers.nd rfl (Or.inl rfl)) pgs_nil))) (fun _ _ _ _ _ => (pts_one (pt_cmpR op_ge (pe_meth (pv 0) c_Lanes.cl o_Lanes_first_moved (hr.mono (by decide)) (pa_cons (pv 3) pa_nil)) (pv 1) (nomark _)))) (fun _ _ _ _ _ => (pe_tup (pa_cons (pv 2) (pa_cons (pv 3) pa_nil))))))), ?_⟩
    refine s_retE (K := K) (ds := (keepers c.strong p).map kD) (el_is (el_lcEn (out := fun i => (keepN c.strong p i).map kD) (ev_strong c_Lanes L (ev_var rfl)) (sq_of hx) fx rfl (fun i hi => ?_) (fun _ _ => rfl) fun i x d H1 e1 hd f => ?_) ?_) fun q ys H1 hq e1 h1 f1 => k q ys H1 hq e1 h1 f1
    · rw [List.length_map] at hi ⊢
      have := keepN_len c.strong p i
      omega
    · obtain ⟨t, ht, rfl⟩ := map_get hd
      obtain ⟨pt, hne⟩ := hc.st t (List.mem_of_getElem? ht)
      have hgd : c.strong.getD i [] = t := by
        rw [List.getD_eq_getElem?_getD, ht]
        rfl
      have L1 := L.ex e1
      obtain ⟨q, hq⟩ : ∃ q, firstMoved 0 t = some q := by
        cases h : firstMoved 0 t with
        | none => exact absurd ((firstMoved_one pt).mp h) hne
        | some q => exact ⟨q, rfl⟩
      have hfm : fmD t = .int (q : Int) := by
        unfold fmD
        rw [hq]
      have hmv : movesFrom p t = decide (p ≤ q) := by
        unfold movesFrom
        rw [hq]
      refine ⟨movesFrom p t, et_is (et_test (ev_op (ev_int (ed_is (ed_meth (ev_var rfl) L1.slt (ea_d (ed_var rfl f) ea_nil) fun H2 e2 ws hw Q2 hQ => ?_) hfm)) (ev_var rfl) rv_I0)) ?_, fun hb => ⟨kD (i, t), ed_tup (ea_d (ed_ev (ev_var rfl) fz_int) (ea_d (ed_var rfl f) ea_nil)) (show 2 ≤ 100000 by decide), ?_⟩, fun hb => ?_⟩
      · obtain ⟨y, rfl, hy⟩ := agl1 hw
        exact ⟨_, y, t, rfl, by rw [isP_len pt]; omega, agd hy, hQ⟩
      · rw [hmv]
        exact decide_eq_decide.mpr (by omega)
      · have ek : keepN c.strong p (i + 1) = keepN c.strong p i ++ [(i, t)] := by rw [keepN, hgd, if_pos hb]
        show (keepN c.strong p (i + 1)).map kD = (keepN c.strong p i).map kD ++ [kD (i, t)]
        rw [ek, List.map_append]
        rfl
      · have ek : keepN c.strong p (i + 1) = keepN c.strong p i := by rw [keepN, hgd, if_neg (by rw [hb]; exact Bool.false_ne_true)]
        show (keepN c.strong p (i + 1)).map kD = (keepN c.strong p i).map kD
        rw [ek]
    · rw [List.length_map]
      rfl
end
abbrev s_Lanes_widen : Stmt := inClass (top 14) 7
abbrev N_Lanes_widen : List Str := ["self", "place", "one", "lane", "strong", "waiting", "here", "at"]
theorem sc_Lanes_widen : FnScope N_Lanes_widen ["self", "place"] (defScope s_Lanes_widen) := ⟨rfl, rfl, rfl, by decide +kernel, rfl, by decide +kernel, by decide +kernel⟩
theorem set_lane2 {c : Ch} {p : Nat} {M M' : LaneT} : (c.setLane p M).setLane p M' = c.setLane p M' := by
  unfold Ch.setLane
  rw [List.set_set]
theorem set_lane0 {c : Ch} {p : Nat} (hp : p < c.lanes.length) : c.setLane p (c.lane p) = c := by
  unfold Ch.setLane Ch.lane
  rw [List.getD_eq_getElem?_getD, List.getElem?_eq_getElem hp, Option.getD_some, List.set_getElem_self]
/-- the lane at p is closed -/
def spWiden (K : PySem.W.Frag) (C : Addr) : Sp := fun vs H Q _ => ∃ (a : Addr) (o : LOwn) (n : Nat) (c : Ch) (p : Nat), vs = [.ref a, .int (p : Int)] ∧ LAt K C a o n c H ∧ ChOk n c ∧ n ≤ 100 ∧ c.strong.length ≤ 20000 ∧ p < n ∧
  ∀ M H', LAt K C a o n (c.setLane p M) H' → OBut (o.all a) H H' → LaneOk n p c.strong M → (∀ e ∈ c.lane p, e ∈ M) → Closed p c.strong M → Q .non H'
section
variable {P : Program} {w : World} {K : PySem.W.Frag} {mg : Str → Option Value} {base : Heap} {C : Addr}
theorem ok_Lanes_widen (B : Bt mg) (c_Lanes : LCls K C) (o_told_then : Okd P w K mg base "told_then" ["one", "other"] s_told_then 1 (spD K 2 rThen)) (o_Lanes_keepers : Okm P w K mg base C "keepers" 2 (spKeep K C)) (d : MethIn K C "widen" "Lanes.widen" ["self", "place"] s_Lanes_widen) : Okm P w K mg base C "widen" 3 (spWiden K C) := by
  refine Okm.mk d sc_Lanes_widen (fun vs H Q E h => ?_) (fun f cdv A outer s H vs Q E hr h => ?_)
  · obtain ⟨a, o, n, c, p, rfl, _⟩ := h
    rfl
  · obtain ⟨a, o, n, c, p, rfl, L, hc, hn, hsz, hp, k⟩ := h
    have hcl := hc.nl
    obtain ⟨q, hq⟩ : ∃ q, o.dl[p]? = some q := ⟨_, List.getElem?_eq_getElem (by rw [L.dn]; exact hp)⟩
    have hqm := List.mem_of_getElem? hq
    have hqo := (L.own).2.2.1 q hqm
    have klen : ((keepers c.strong p).map (fun e => tN e.2)).length ≤ 20000 := by
      rw [List.length_map]
      have := keepN_len c.strong p c.strong.length
      unfold keepers
      omega
    refine ⟨_, (pss_cons (ps_par (i := 3) (j := 4) (by rfl) sc_Lanes_widen.nd rfl rfl (by decide) rfl rfl (pa_cons (pe_ix ix_list (SlX.pe_sl (pv 0)) (pv 1) (fun _ _ => rfl)) (pa_cons (pe_lc (own := [("at", 7), ("one", 2)]) rfl sc_Lanes_widen.nd (pi_list (pe_meth (pv 0) c_Lanes.cl o_Lanes_keepers (hr.mono (by decide)) (pa_cons (pv 1) pa_nil))) (blkOk_by (own := [("at", 7), ("one", 2)]) (N := N_Lanes_widen) (sc := defScope s_Lanes_widen) (by decide +kernel)) (fun _ _ _ _ _ => pg_tupK (K := K) (n := 2) (by rfl) (pgs_cons (pg_name (i := 7) sc_Lanes_widen.nd rfl (Or.inl rfl)) (pgs_cons (pg_name (i := 2) sc_Lanes_widen.nd rfl (Or.inl rfl)) pgs_nil))) (fun _ _ _ _ _ => pts_nil) (fun _ _ _ _ _ => (pv 2))) pa_nil)) (by rfl))
      (pss_cons (ps_set (i := 5) sc_Lanes_widen.nd rfl (Or.inl rfl) (pe_callTy (call_list_dK rfl) (by rfl) B.list boot_list (pa_cons (pv 3) pa_nil)))
      (pss_one (ps_while PassesOwn.never (pt_cmpR (op_neD (room64 hr)) (pv 5) (pe_lst pa_nil) (nomark _)) (pss_cons (ps_set (i := 6) sc_Lanes_widen.nd rfl (Or.inl rfl) (pe_bm0 PySem.F.plainAttrs_list PySem.F.slot_list_pop PySem.F.type_list_pop mt_pop (pv 5)))
        (pss_one (ps_for PassesOwn.never rfl (pi_list (pv 4)) (pg_name (i := 2) sc_Lanes_widen.nd rfl (Or.inl rfl)) (pss_one (ps_if (pt_cmp (pc_dnotin (room1 hr) (pe_ix ix_tup (pv 2) (pv 6) (fun _ _ => rfl)) (pv 3)) (by rfl)) (pss_cons (ps_asg (pe_fn o_told_then (hr.mono (by decide)) (pa_cons (pe_dget (room1 hr) (pv 3) (pv 6) (fun _ _ => rfl)) (pa_cons (pv 2) pa_nil))) (pg_sub (pv 3) (pe_ix ix_tup (pv 2) (pv 6) (fun _ _ => rfl)) (set_dict (room1 hr))))
            (pss_one (ps_expr (pe_bm PySem.F.plainAttrs_list PySem.F.slot_list_append PySem.F.type_list_append mt_append (pv 5) (pa_cons (pe_ix ix_tup (pv 2) (pv 6) (fun _ _ => rfl)) pa_nil))))) pss_nil))))))))), ?_⟩
    refine q_parM (c_cons (ev_laneAt c_Lanes L (ev_var rfl) (ev_var rfl) hq H (Ex.refl _) _ fun H1 e1 => c_cons (c_lcList (c_meth (ev_var rfl) (L.ex e1).slt fun H2 e2 => Evl.ea_cons (ev_var rfl) Evl.ea_nil H2 (Ex.refl _) _ fun H3 e3 => ⟨a, o, n, c, p, rfl, L.ex ((e1.trans e2).trans e3), hc, hn, hsz, fun kq kx H4 hkq e4 hk4 fk => ⟨kq, rfl, ?_⟩⟩))))
    have e14 := ((e1.trans e2).trans e3).trans e4
    refine el_is (el_lcPr (out := fun i => ((keepers c.strong p).map (fun e => tN e.2)).take i) ev_c (sq_of hk4) fk rfl (fun i hi => by rw [List.length_take]; omega) (fun _ _ => rfl) (fun d hd => ?_) fun i x y d1 d2 H5 e5 hd hx hy => ?_) (es := (keepers c.strong p).map (fun e => tN e.2)) (by rw [List.take_of_length_le (by rw [List.length_map, List.length_map]; exact Nat.le_refl _)]) H4 (Ex.refl _) _ fun sl sx H5 hsl e5 hs5 fs5 => c_nil ⟨_, _, rfl, ?_⟩
    · obtain ⟨e, _, rfl⟩ := List.mem_map.mp hd
      exact ⟨_, _, rfl⟩
    · obtain ⟨e, he, hee⟩ := map_get hd
      have h2 := PyData.tuple.inj hee
      have h3 := (List.cons.inj h2).2
      have h4 : d2 = tN e.2 := (List.cons.inj h3).1
      subst h4
      exact turn_all et_yes (ed_var rfl hy) (take_get (by rw [List.getElem?_map, he]; rfl))
    · have L5 := L.ex (e14.trans e5)
      obtain ⟨kv0, hk0, hD0⟩ := L5.dk p q hq
      have hsl0 : H sl = none := fresh_back e14 hsl
      refine q_asgM (c_cb (c_cons (ev_var rfl H5 (Ex.refl _) _ fun H6 e6 => c_nil ⟨q, kv0, rfl, e6 _ _ hk0, fun wl hwl => ?_⟩)))
      have e56 := e6.trans (Ex.new (o := .lst (kv0.map fun kv => kV kv.1)) hwl)
      generalize hH7 : upd H6 wl (.lst (kv0.map fun kv => kV kv.1)) = H7 at e56
      have hw0 : kv0.map (fun kv => kV kv.1) = vN ((c.lane p).map (·.1)) := by
        have := congrArg (List.map kV) hD0.1
        rw [List.map_map, List.map_map] at this
        unfold vN
        rw [List.map_map]
        exact this
      have h7 : H7 wl = some (.lst (vN ((c.lane p).map (·.1)))) := by
        rw [← hH7, upd_same, hw0]
      have hwl0 : H wl = none := fresh_back (e14.trans (e5.trans e6)) hwl
      have hswl : sl ≠ wl := fun z => by
        rw [← z, e6 _ _ hs5] at hwl
        cases hwl
      have nwl : wl ∉ o.all a := L.fresh hwl0
      have nsl : sl ∉ o.all a := L.fresh hsl0
      have e07 : Ex H H7 := e14.trans (e5.trans e56)
      have hst := hc.st
      have hP := hc.isP
      let ks := (keepers c.strong p).map (·.2)
      have hks : ∀ s, s ∈ ks ↔ Sp' c.strong p s := fun s => keepers_sp hst
      have eks : (keepers c.strong p).map (fun e => tN e.2) = ks.map tN := by
        show _ = ((keepers c.strong p).map (·.2)).map tN
        rw [List.map_map]
        rfl
      rw [eks] at fs5 klen
      let σ0 : Option V → Option V → Option V → L2.St := fun z2 z6 z7 => [some (.ref a), some (.int (p : Int)), z2, some (.ref q), some (.ref sl), some (.ref wl), z6, z7]
      -- what stands
      let St : LaneT → List Nat → Hp → Prop := fun M W H' => LAt K C a o n (c.setLane p M) H' ∧ OBut (o.all a) H H' ∧ LaneOk n p c.strong M ∧ (∀ e ∈ c.lane p, e ∈ M) ∧ H' wl = some (.lst (vN W)) ∧ H' sl = some (.lst sx) ∧ FzL K H' (ks.map tN) sx ∧ ∀ x ∈ W, ∃ u, (x, u) ∈ M
      have Stex : ∀ {M : LaneT} {W : List Nat} {H' H'' : Hp}, St M W H' → Ex H' H'' → St M W H'' := fun ⟨s1, s2, s3, s4, s5, s6, s7, s8⟩ e => ⟨s1.ex e, s2.ex e, s3, s4, e _ _ s5, e _ _ s6, fzl_ex e s7, s8⟩
      have hL0 := hc.ok p hp
      refine s_while (fun m σ' H' => ∃ M W z2 z6 z7, σ' = σ0 z2 z6 z7 ∧ m = 2 * (n - M.length) + W.length ∧ m ≤ 2 * n ∧ St M W H' ∧ ∀ x u, (x, u) ∈ M → x ∉ W → ∀ s, Sp' c.strong p s → ∃ v, (ap s x, v) ∈ M) _ ⟨c.lane p, (c.lane p).map (·.1), none, none, none, rfl, rfl, ?_, ⟨?_, OBut.of e07, hL0, fun e he => he, h7, e56 _ _ hs5, fzl_ex e56 fs5, fun x hx => ?_⟩, fun x u hxu hxw => absurd (List.mem_map.mpr ⟨_, hxu, rfl⟩) hxw⟩ (fun m σ' H' h => ?_)
      · have := hL0.size hp
        rw [List.length_map]
        omega
      · rw [set_lane0 (by omega)]
        exact L.ex e07
      · obtain ⟨⟨x', u⟩, hxu, rfl⟩ := List.mem_map.mp hx
        exact ⟨u, hxu⟩
      · obtain ⟨M, W, z2, z6, z7, rfl, hm, hm2, hS, hcl2⟩ := h
        obtain ⟨s1, s2, s3, s4, s5, s6, s7, s8⟩ := hS
        refine ⟨!(W.map fun n : Nat => PyData.int (n : Int)).isEmpty, et_test (ev_neNil (n := 0) (ev_var rfl) (sq_of s5) (fzl_nats.mpr rfl) (fun d hd => by obtain ⟨x, _, rfl⟩ := List.mem_map.mp hd; exact plain_int _) (by decide)), fun hb H8 e8 => ?_, fun hb H8 e8 => ?_⟩
        · have hW : W ≠ [] := fun z => by
            subst z
            cases hb
          have eW := List.dropLast_concat_getLast hW
          generalize hx0 : W.getLast hW = x at eW
          generalize hW1 : W.dropLast = W1 at eW
          have hS8 := Stex (M := M) (W := W) ⟨s1, s2, s3, s4, s5, s6, s7, s8⟩ e8
          obtain ⟨t1, t2, t3, t4, t5, t6, t7, t8⟩ := hS8
          have hvW : vN W = vN W1 ++ [.int (x : Int)] := by
            rw [← eW]
            unfold vN
            rw [List.map_append]
            rfl
          obtain ⟨ux, hux⟩ := t8 x (by rw [← eW]; simp)
          obtain ⟨pux, fux, aux, gux⟩ := t3.el x ux hux
          have hWl : W.length = W1.length + 1 := by
            rw [← eW]
            simp
          refine ⟨fun σ' H' => ∃ M W z2 z6 z7, σ' = σ0 z2 z6 z7 ∧ 2 * (n - M.length) + W.length < m ∧ St M W H' ∧ ∀ x u, (x, u) ∈ M → x ∉ W → ∀ s, Sp' c.strong p s → ∃ v, (ap s x, v) ∈ M, fun σ' H' hN => ?_, ?_⟩
          · obtain ⟨M', W', z2', z6', z7', h1, h2, h3, h4⟩ := hN
            exact ⟨_, h2, M', W', z2', z6', z7', h1, rfl, by omega, h3, h4⟩
          -- here = waiting.pop()
          refine q_asgM (c_bm0 ?_)
          refine ev_var (v := .ref wl) rfl H8 (Ex.refl _) _ fun H9 e9 => ⟨Or.inl ⟨rfl, _, sq_of (e9 _ _ t5)⟩, wl, vN W, .int (x : Int), rfl, rfl, e9 _ _ t5, ?_, ?_⟩
          · rw [hvW]
            simp
          have hdl : (vN W).dropLast = vN W1 := by
            rw [hvW, List.dropLast_concat]
          rw [hdl]
          have w9 : H9 wl = some (.lst (vN W)) := e9 _ _ t5
          generalize hG : upd H9 wl (.lst (vN W1)) = G
          have txG : TEx H9 G := by
            rw [← hG]
            exact tex_lst w9
          have SG : St M W1 G := by
            refine ⟨?_, ?_, t3, t4, ?_, ?_, FzL.mono txG _ _ (fzl_ex e9 t7), fun y hy => t8 y (by rw [← eW]; exact List.mem_append_left _ hy)⟩
            · rw [← hG]
              exact (t1.ex e9).away nwl (by rw [hG]; exact txG)
            · rw [← hG]
              exact (t2.ex e9).mutF hwl0
            · rw [← hG]
              exact upd_same
            · rw [← hG, upd_ne hswl]
              exact e9 _ _ t6
          -- for one in strong
          refine s_forL (a := sl) (xs := sx) (ev_var rfl) (sq_of SG.2.2.2.2.2.1) (fun j σ2 H2 => ∃ M2 W2 z2, σ2 = σ0 z2 (some (.int (x : Int))) z7 ∧ St M2 W2 H2 ∧ (∀ e ∈ M, e ∈ M2) ∧ 2 * (n - M2.length) + W2.length ≤ 2 * (n - M.length) + W1.length ∧
            (∀ y u, (y, u) ∈ M2 → y ∉ W2 → y ≠ x → ∀ s, Sp' c.strong p s → ∃ v, (ap s y, v) ∈ M2) ∧ ∀ i s, i < j → ks[i]? = some s → ∃ v, (ap s x, v) ∈ M2) (fun H1 e1 => ?_) (fun j σ2 H2 _ h => ?_) (fun j y σ2 H2 hy h => ?_) (fun σ2 H2 h => ?_)
          · refine ⟨M, W1, z2, rfl, Stex SG e1, fun e he => he, Nat.le_refl _, fun y u hyu hyW hyx => hcl2 y u hyu (fun z => ?_), fun i s hi => absurd hi (Nat.not_lt_zero _)⟩
            rw [← eW] at z
            rcases List.mem_append.mp z with z | z
            · exact hyW z
            · exact hyx (List.mem_singleton.mp z)
          · obtain ⟨M2, W2, z2', _, S2, _⟩ := h
            exact sq_of S2.2.2.2.2.2.1
          · obtain ⟨M2, W2, z2', rfl, S2, hsub, hmes, hcl3, hdone⟩ := h
            obtain ⟨r1, r2, r3, r4, r5, r6, r7, r8⟩ := S2
            obtain ⟨d, hd, fd⟩ := fzl_getV r7 hy
            obtain ⟨s, hs, rfl⟩ := map_get hd
            have hsp := (hks s).mp (List.mem_of_getElem? hs)
            have ps := hP s hsp.1
            have hxn := r3.key_lt hp (hsub _ hux)
            have hone : ∀ {σ : L2.St} {H3 : Hp}, Ex H2 H3 → σ[2]? = some (some y) → σ[6]? = some (some (.int (x : Int))) → Ev (tOp (rIxT K) (tVar 2) (tVar 6)) σ H3 (.int ((ap s x : Nat) : Int)) := fun e h2 h6 => ev_int (ed_ixT (ed_var h2 (fz_ex e fd)) (ev_var h6) (rNs_get (ap_get (by rw [isP_len ps]; exact hxn))))
            obtain ⟨kv, hkv, hDv⟩ := r1.dk p q hq
            rw [lane_set (by omega), if_pos rfl] at hDv
            refine s_when (b := (look M2 (ap s x)).isNone) (et_B (ev_notinD (hone (Ex.refl _) rfl rfl) (ev_var rfl) hkv hDv)) (fun hb3 H3 e3 => ?_) (fun hb3 H3 e3 => ?_)
            · have hnone : look M2 (ap s x) = none := by
                cases hl : look M2 (ap s x) with
                | none => rfl
                | some _ =>
                  rw [hl] at hb3
                  cases hb3
              have hxlook := look_of r3.nd (hsub _ hux)
              refine q_asgM (ed_call (sp := spD K 2 rThen) (d := tN (thn ux s)) (ea_d (ed_getD (ev_var rfl) (ev_var rfl) (e3 _ _ hkv) (hDv.tex (tex_of e3)) hxlook) (ea_d (ed_var rfl (fz_ex e3 fd)) ea_nil)) (pr_D ⟨n, ux, s, rfl, by omega, pux, ps, rfl⟩) H3 (Ex.refl _) _ fun v H4 e4 fv => ?_)
              refine ev_var rfl H4 (Ex.refl _) _ fun H5 e5 => hone (e3.trans (e4.trans e5)) rfl rfl H5 (Ex.refl _) _ fun H6 e6 => ⟨q, _, rfl, DPut.k (k := (Sum.inl ((ap s x : Nat) : Int) : Key)) (((e3.trans e4).trans (e5.trans e6)) _ _ hkv) ?_, ?_⟩
              · have h1 := r3.size hp
                have h2 := congrArg List.length hDv.1
                rw [List.length_map, List.length_map] at h2
                exact sz_lt (by omega)
              have e36 := e4.trans (e5.trans e6)
              have hn2 := (hDv.get (ap s x)).1 hnone
              rw [putK_new v hn2]
              have hD3 : DL K (upd H6 q (.dK (kv ++ [((Sum.inl ((ap s x : Nat) : Int) : Key), v)]))) (M2 ++ [(ap s x, thn ux s)]) (kv ++ [((Sum.inl ((ap s x : Nat) : Int) : Key), v)]) := by
                have tx : TEx H6 (upd H6 q (.dK (kv ++ [((Sum.inl ((ap s x : Nat) : Int) : Key), v)]))) := fun b xs hb => by
                  have ne : b ≠ q := fun z => by
                    rw [z, (e3.trans e36) _ _ hkv] at hb
                    cases hb
                  rw [upd_ne ne]
                  exact hb
                refine ⟨by rw [List.map_append, List.map_append, hDv.1]; rfl, ?_⟩
                rw [List.map_append, List.map_append]
                exact fzl_append (FzL.mono tx _ _ (fzl_ex (e3.trans e36) hDv.2)) (fzl_cons (Fz.mono tx _ _ (fz_ex (e5.trans e6) fv)) fzl_nil)
              have L6 := (r1.ex (e3.trans e36)).setLane (by show (c.lanes.set p M2).length = n; rw [List.length_set]; exact hc.nl) hq hD3
              rw [set_lane2] at L6
              have hadd := r3.add hP hp (hsub _ hux) hsp hnone
              have wne : wl ≠ q := fun z => nwl (z ▸ hqo)
              have sne : sl ≠ q := fun z => nsl (z ▸ hqo)
              have tx6 : TEx H6 (upd H6 q (.dK (kv ++ [((Sum.inl ((ap s x : Nat) : Int) : Key), v)]))) := (r1.ex (e3.trans e36)).tex (OBut.put hqo)
              generalize hG2 : upd H6 q (.dK (kv ++ [((Sum.inl ((ap s x : Nat) : Int) : Key), v)])) = G2 at L6 tx6
              have wG2 : G2 wl = some (.lst (vN W2)) := by
                rw [← hG2, upd_ne wne]
                exact (e3.trans e36) _ _ r5
              have sG2 : G2 sl = some (.lst sx) := by
                rw [← hG2, upd_ne sne]
                exact (e3.trans e36) _ _ r6
              have eG2 : OBut (o.all a) H G2 := by
                rw [← hG2]
                exact (r2.ex (e3.trans e36)).mut hqo
              have txx : TEx H2 G2 := (tex_of (e3.trans e36)).trans tx6
              have hW2 : W2.length ≤ 20000 := by omega
              refine s_app (v := .int ((ap s x : Nat) : Int)) wG2 (ev_var rfl) (ev_int (ed_ixT (ed_var rfl (Fz.mono txx _ _ fd)) (ev_var rfl) (rNs_get (ap_get (by rw [isP_len ps]; exact hxn))))) (by rw [vN_len]; omega) fun H7' e7 => ⟨M2 ++ [(ap s x, thn ux s)], W2 ++ [ap s x], _, rfl, ⟨?_, ?_, hadd, fun e he => List.mem_append_left _ (r4 e he), ?_, ?_, ?_, ?_⟩, fun e he => List.mem_append_left _ (hsub e he), ?_, ?_, ?_⟩
              · exact (L6.ex e7).away nwl (tex_lst (e7 _ _ wG2))
              · exact (eG2.ex e7).mutF hwl0
              · unfold vN
                rw [List.map_append]
                exact upd_same
              · rw [upd_ne hswl]
                exact e7 _ _ sG2
              · exact FzL.mono ((txx.trans (tex_of e7)).trans (tex_lst (e7 _ _ wG2))) _ _ r7
              · intro y' hy'
                rcases List.mem_append.mp hy' with z | z
                · obtain ⟨u', hu'⟩ := r8 y' z
                  exact ⟨u', List.mem_append_left _ hu'⟩
                · rw [List.mem_singleton.mp z]
                  exact ⟨_, List.mem_append_right _ (List.mem_singleton.mpr rfl)⟩
              · have h1 := hadd.size hp
                rw [List.length_append] at h1
                rw [List.length_append, List.length_append]
                simp at h1 ⊢
                omega
              · intro y' u' hyu hyW hyx s' hs'
                rcases List.mem_append.mp hyu with z | z
                · obtain ⟨v', hv'⟩ := hcl3 y' u' z (fun w => hyW (List.mem_append_left _ w)) hyx s' hs'
                  exact ⟨v', List.mem_append_left _ hv'⟩
                · have := (Prod.mk.inj (List.mem_singleton.mp z)).1
                  exact absurd (List.mem_append_right _ (List.mem_singleton.mpr this)) hyW
              · intro i s' hi hs'
                rcases Nat.lt_or_eq_of_le (Nat.le_of_lt_succ hi) with z | z
                · obtain ⟨v', hv'⟩ := hdone i s' z hs'
                  exact ⟨v', List.mem_append_left _ hv'⟩
                · subst z
                  rw [hs] at hs'
                  cases (Option.some.inj hs')
                  exact ⟨_, List.mem_append_right _ (List.mem_singleton.mpr rfl)⟩
            · obtain ⟨v', hv'⟩ : ∃ v', look M2 (ap s x) = some v' := by
                cases hl : look M2 (ap s x) with
                | none =>
                  rw [hl] at hb3
                  cases hb3
                | some v' => exact ⟨v', rfl⟩
              refine ⟨M2, W2, _, rfl, Stex ⟨r1, r2, r3, r4, r5, r6, r7, r8⟩ e3, hsub, hmes, hcl3, fun i s' hi hs' => ?_⟩
              rcases Nat.lt_or_eq_of_le (Nat.le_of_lt_succ hi) with z | z
              · exact hdone i s' z hs'
              · subst z
                rw [hs] at hs'
                cases (Option.some.inj hs')
                exact ⟨v', look_mem hv'⟩
          · obtain ⟨M2, W2, z2', rfl, S2, hsub, hmes, hcl3, hdone⟩ := h
            have hl := fzl_len S2.2.2.2.2.2.2.1
            rw [List.length_map] at hl
            refine ⟨M2, W2, _, _, _, rfl, by omega, S2, fun y u hyu hyW s hs => ?_⟩
            by_cases hyx : y = x
            · subst hyx
              obtain ⟨i, hi⟩ := List.getElem?_of_mem ((hks s).mpr hs)
              exact hdone i s (by have := (List.getElem?_eq_some_iff.mp hi).1; omega) hi
            · exact hcl3 y u hyu hyW hyx s hs
        · have hW : W = [] := by
            cases W with
            | nil => rfl
            | cons _ _ => cases hb
          subst hW
          have hS8 := Stex (M := M) (W := []) ⟨s1, s2, s3, s4, s5, s6, s7, s8⟩ e8
          exact k M H8 hS8.1 hS8.2.1 s3 s4 fun x u hxu s hs => hcl2 x u hxu (fun z => by cases z) s hs
end
abbrev s_Lanes_left_at : Stmt := inClass (top 14) 8
abbrev N_Lanes_left_at : List Str := ["self", "place", "lane", "known", "number", "one", "to", "made", "left"]
theorem sc_Lanes_left_at : FnScope N_Lanes_left_at ["self", "place"] (defScope s_Lanes_left_at) := ⟨rfl, rfl, rfl, by decide +kernel, rfl, by decide +kernel, by decide +kernel⟩
section
variable {K : PySem.W.Frag} {H : Hp} {σ : L2.St} {ta tb td : TE}
/-- (x, k) in known -/
theorem ev_dinT {x k : Nat} {q : Addr} {kvs : List (List Key × V)} {E : List (Nat × Nat)} (hx : Ev ta σ H (.int (x : Int))) (hk : Ev tb σ H (.int (k : Int))) (hd : Ev td σ H (.ref q)) (hq : H q = some (.dT kvs)) (hE : KL E kvs) : Ev (tDIn (tTup (tCons ta (tCons tb tNil))) td) σ H (.bl (decide ((x, k) ∈ E))) := fun H1 e Q kk => by
  show tCons ta (tCons tb tNil) σ H1 fun vs H2 => vs.length ≤ sizeLine ∧ ∀ p, H2 p = none → td σ (upd H2 p (.tup vs)) fun x H4 => ∃ a o, x = .ref a ∧ DGet H4 a (.ref p) o ∧ Q (.bl o.isSome) H4
  refine Evl.ea_cons hx (Evl.ea_cons hk Evl.ea_nil) H1 e _ fun H2 e2 => ⟨sz_of (show 2 ≤ 100000 by decide), fun b hb => hd _ (e.trans (e2.trans (Ex.new hb))) _ fun H4 e4 => ⟨q, _, rfl, DGet.t (k := [(Sum.inl (x : Int) : Key), (Sum.inl (k : Int) : Key)]) (e4 _ _ (Ex.new hb _ _ ((e.trans e2) _ _ hq))) (e4 _ _ upd_same), ?_⟩⟩
  rw [hE.get]
  exact kk H4 (e2.trans ((Ex.new hb).trans e4))
end
/-- the first thing left that the lane at p tells, if any -/
def spLeftAt (K : PySem.W.Frag) (C : Addr) : Sp := fun vs H Q _ => ∃ (a : Addr) (o : LOwn) (n : Nat) (c : Ch) (p : Nat), vs = [.ref a, .int (p : Int)] ∧ LAt K C a o n c H ∧ ChOk n c ∧ KnOk n c ∧ AllClosed n c ∧ n ≤ 60 ∧ c.strong.length ≤ 20000 ∧ p < n ∧
  (∀ E H', (∀ e ∈ c.kn p, e ∈ E) → LAt K C a o n (c.setKn p E) H' → OBut (o.all a) H H' → KnOk n (c.setKn p E) → (∀ x u k s, (x, u) ∈ c.lane p → c.strong[k]? = some s → Fix p s → (x, k) ∈ E) → Q .non H') ∧
  ∀ E H' v r q, (∀ e ∈ c.kn p, e ∈ E) → LAt K C a o n (c.setKn p E) H' → OBut (o.all a) H H' → Left n c r q → p < q → Gen n (Sp' c.strong 0) r → KnOk n ((c.setKn p E).app r) → Fz K H' (tN r) v → Q v H'
section
variable {P : Program} {w : World} {K : PySem.W.Frag} {mg : Str → Option Value} {base : Heap} {C : Addr}
theorem ok_Lanes_left_at (B : Bt mg) (c_Lanes : LCls K C) (o_told_then : Okd P w K mg base "told_then" ["one", "other"] s_told_then 1 (spD K 2 rThen)) (o_told_undone : Okd P w K mg base "told_undone" ["position"] s_told_undone 1 (spD K 1 rUnd)) (o_Lanes_first_moved : Okm P w K mg base C "first_moved" 1 (spFirst K))
    (o_Lanes_sifted : Okm P w K mg base C "sifted" 2 (spSift K C)) (o_Lanes_keepers : Okm P w K mg base C "keepers" 2 (spKeep K C)) (d : MethIn K C "left_at" "Lanes.left_at" ["self", "place"] s_Lanes_left_at) : Okm P w K mg base C "left_at" 3 (spLeftAt K C) := by
  refine Okm.mk d sc_Lanes_left_at (fun vs H Q E h => ?_) (fun f cdv A outer s H vs Q E hr h => ?_)
  · obtain ⟨a, o, n, c, p, rfl, _⟩ := h
    rfl
  · obtain ⟨a, o, n, c, p, rfl, L, hc, hkn, hcl, hn, hsz, hp, k1, k2⟩ := h
    have hcn := hc.nk
    obtain ⟨q, hq⟩ : ∃ q, o.dl[p]? = some q := ⟨_, List.getElem?_eq_getElem (by rw [L.dn]; exact hp)⟩
    obtain ⟨kq, hkq⟩ : ∃ q, o.kl[p]? = some q := ⟨_, List.getElem?_eq_getElem (by rw [L.kn]; exact hp)⟩
    have hkm := List.mem_of_getElem? hkq
    have hko := (L.own).2.2.2 kq hkm
    refine ⟨_, (pss_cons (ps_par (i := 2) (j := 3) (by rfl) sc_Lanes_left_at.nd rfl rfl (by decide) rfl rfl (pa_cons (pe_ix ix_list (SlX.pe_sl (pv 0)) (pv 1) (fun _ _ => rfl)) (pa_cons (pe_ix ix_list (SlX.pe_sl (pv 0)) (pv 1) (fun _ _ => rfl)) pa_nil)) (by rfl))
      (pss_cons (ps_for PassesOwn.never rfl (pi_list (pe_meth (pv 0) c_Lanes.cl o_Lanes_keepers (hr.mono (by decide)) (pa_cons (pv 1) pa_nil))) (pg_tup (by rfl) (pgs_cons (pg_name (i := 4) sc_Lanes_left_at.nd rfl (Or.inl rfl)) (pgs_cons (pg_name (i := 5) sc_Lanes_left_at.nd rfl (Or.inl rfl)) pgs_nil))) (pss_one (ps_for PassesOwn.never rfl (pi_list (pe_callB (call_sortedDI rfl) (by rfl) B.sorted boot_sorted (pa_cons (pv 2) pa_nil))) (pg_name (i := 6) sc_Lanes_left_at.nd rfl (Or.inl rfl)) (pss_cons (ps_if (pt_cmp (pc_din (room1 hr) (pe_tup (pa_cons (pv 6) (pa_cons (pv 4) pa_nil))) (pv 3)) (by rfl)) (pss_one ps_continue) pss_nil)
          (pss_cons (ps_asg pe_bl (pg_sub (pv 3) (pe_tup (pa_cons (pv 6) (pa_cons (pv 4) pa_nil))) (set_dict (room1 hr))))
          (pss_cons (ps_set (i := 7) sc_Lanes_left_at.nd rfl (Or.inl rfl) (pe_fn o_told_then (hr.mono (by decide)) (pa_cons (pe_dget (room1 hr) (pv 2) (pv 6) (fun _ _ => rfl)) (pa_cons (pv 5) pa_nil))))
          (pss_cons (ps_set (i := 8) sc_Lanes_left_at.nd rfl (Or.inl rfl) (pe_meth (pv 0) c_Lanes.cl o_Lanes_sifted (hr.mono (by decide)) (pa_cons (pe_fn o_told_then (hr.mono (by decide)) (pa_cons (pv 7) (pa_cons (pe_fn o_told_undone (hr.mono (by decide)) (pa_cons (pe_dget (room1 hr) (pv 2) (pe_ix ix_tup (pv 7) (pv 1) (fun _ _ => rfl)) (fun _ _ => rfl)) pa_nil)) pa_nil))) (pa_cons (pe_op op_add (pv 1) pe_int) pa_nil))))
          (pss_one (ps_if (pt_cmpR op_notN (pe_meth (pv 0) c_Lanes.cl o_Lanes_first_moved (hr.mono (by decide)) (pa_cons (pv 8) pa_nil)) pe_non (nomark _)) (pss_one (ps_ret (pv 8))) pss_nil)))))))))
      (pss_one (ps_ret pe_non)))), ?_⟩
    refine q_parM (c_cons (ev_laneAt c_Lanes L (ev_var rfl) (ev_var rfl) hq H (Ex.refl _) _ fun H1 e1 => c_cons (ev_knownAt c_Lanes (L.ex e1) (ev_var rfl) (ev_var rfl) hkq H1 (Ex.refl _) _ fun H2 e2 => c_nil ⟨_, _, rfl, ?_⟩)))
    have LL2 := L.ex (e1.trans e2)
    refine q_forM (c_meth (ev_var rfl) LL2.slt fun H3 e3 => Evl.ea_cons (ev_var rfl) Evl.ea_nil H3 (Ex.refl _) _ fun H4 e4 => ⟨a, o, n, c, p, rfl, LL2.ex (e3.trans e4), hc, by omega, hsz, fun kl kx H5 hkl e5 hkx fk => ⟨kl, rfl, ?_⟩⟩)
    have e05 : Ex H H5 := (e1.trans e2).trans ((e3.trans e4).trans e5)
    have L5 := L.ex e05
    have hkl0 : H kl = none := fresh_back ((e1.trans e2).trans (e3.trans e4)) hkl
    have nkl : kl ∉ o.all a := L.fresh hkl0
    have hkxl := fzl_len fk
    rw [List.length_map] at hkxl
    have hok := hc.ok p hp
    let σ0 : Option V → Option V → Option V → Option V → Option V → L2.St := fun z4 z5 z6 z7 z8 => [some (.ref a), some (.int (p : Int)), some (.ref q), some (.ref kq), z4, z5, z6, z7, z8]
    let St : List (Nat × Nat) → Hp → Prop := fun E H' => (∀ e ∈ c.kn p, e ∈ E) ∧ LAt K C a o n (c.setKn p E) H' ∧ OBut (o.all a) H H' ∧ KnOk n (c.setKn p E) ∧ H' kl = some (.lst kx) ∧ FzL K H' ((keepers c.strong p).map kD) kx
    have Stex : ∀ {E : List (Nat × Nat)} {H' H'' : Hp}, St E H' → Ex H' H'' → St E H'' := fun ⟨s1, s2, s3, s4, s5, s6⟩ e => ⟨s1, s2.ex e, s3.ex e, s4, e _ _ s5, fzl_ex e s6⟩
    have set0 : c.setKn p (c.kn p) = c := by
      unfold Ch.setKn Ch.kn
      rw [List.getD_eq_getElem?_getD, List.getElem?_eq_getElem (by omega), Option.getD_some, List.set_getElem_self]
    have knE : ∀ E : List (Nat × Nat), (c.setKn p E).kn p = E := fun E => by rw [kn_set (by omega), if_pos rfl]
    refine q_forL (a := kl) (xs := kx) ev_c (sq_of hkx) (fun i σ2 H' => ∃ E z4 z5 z6 z7 z8, σ2 = σ0 z4 z5 z6 z7 z8 ∧ St E H' ∧ ∀ j k s, j < i → (keepers c.strong p)[j]? = some (k, s) → ∀ x u, (x, u) ∈ c.lane p → (x, k) ∈ E) (fun H6 e6 => ?_) (fun i σ2 H' _ h => ?_) (fun i y σ2 H' hy h => ?_) (fun σ2 H' h => ?_)
    · refine ⟨c.kn p, none, none, none, none, none, rfl, ⟨fun e he => he, ?_, OBut.of (e05.trans e6), ?_, e6 _ _ hkx, fzl_ex e6 fk⟩, fun j k s hj => absurd hj (Nat.not_lt_zero _)⟩
      · rw [set0]
        exact L5.ex e6
      · rw [set0]
        exact hkn
    · obtain ⟨E, _, _, _, _, _, _, h2, _⟩ := h
      exact sq_of h2.2.2.2.2.1
    · obtain ⟨E, z4, z5, z6, z7, z8, rfl, hS, hdone⟩ := h
      obtain ⟨d, hd, fd⟩ := fzl_getV hS.2.2.2.2.2 hy
      obtain ⟨⟨nb, t⟩, ht, rfl⟩ := map_get hd
      obtain ⟨ht1, ht2⟩ := (keepers_mem hc.st).mp (List.mem_of_getElem? ht)
      have htm := List.mem_of_getElem? ht1
      have pt := hc.isP t htm
      refine g2_fz (j1 := 4) (j2 := 5) fd fun v1 v2 f1 f2 => ?_
      have hv1 := fz_intI f1
      subst hv1
      -- for to in sorted(lane)
      obtain ⟨kv, hkv, hDv⟩ := hS.2.1.dk p q hq
      have hsize := hok.size hp
      refine s_forM (c_cb (c_cons (ev_var rfl H' (Ex.refl _) _ fun H6 e6 => c_nil ⟨q, kv, (c.lane p).map (fun e => (e.1 : Int)), rfl, .inl (e6 _ _ hkv), ?_, ?_, fun ys sl hys _ hsl => ⟨sl, rfl, ?_⟩⟩)))
      · rw [hDv.1, List.map_map]
        rfl
      · rw [List.length_map]
        omega
      have e6n := e6.trans (Ex.new (o := .lst (ys.map V.int)) hsl)
      generalize hG : upd H6 sl (.lst (ys.map V.int)) = G at e6n
      have hGs : G sl = some (.lst (ys.map V.int)) := by
        rw [← hG]
        exact upd_same
      have nsl : sl ∉ o.all a := (hS.2.1.ex e6).fresh hsl
      refine s_forL (a := sl) (xs := ys.map V.int) ev_c (sq_of hGs) (fun j σ3 H7 => ∃ E2 z6 z7 z8, σ3 = σ0 (some (.int (nb : Int))) (some v2) z6 z7 z8 ∧ St E2 H7 ∧ (∀ e ∈ E, e ∈ E2) ∧ Fz K H7 (tN t) v2 ∧ H7 sl = some (.lst (ys.map V.int)) ∧ ∀ j' (x : Nat), j' < j → ys[j']? = some (x : Int) → (x, nb) ∈ E2) (fun H7 e7 => ?_) (fun j σ3 H7 _ h => ?_) (fun j y3 σ3 H7 hy3 h => ?_) (fun σ3 H7 h => ?_)
      · exact ⟨E, _, _, _, rfl, Stex hS (e6n.trans e7), fun e he => he, fz_ex (e6n.trans e7) f2, e7 _ _ hGs, fun j' x hj => absurd hj (Nat.not_lt_zero _)⟩
      · obtain ⟨_, _, _, _, _, _, _, _, h, _⟩ := h
        exact sq_of h
      · obtain ⟨E2, z6, z7, z8, rfl, hS2, hsub, fv2, hsl2, hdn⟩ := h
        obtain ⟨s1, s2, s3, s4, s5, s6⟩ := hS2
        rw [List.getElem?_map] at hy3
        obtain ⟨yi, hyi, rfl⟩ : ∃ yi, ys[j]? = some yi ∧ y3 = .int yi := by
          cases z : ys[j]? with
          | none => rw [z] at hy3; cases hy3
          | some yi => rw [z] at hy3; exact ⟨yi, rfl, (Option.some.inj hy3).symm⟩
        obtain ⟨⟨x, u⟩, hxu, rfl⟩ := List.mem_map.mp (hys.subset (List.mem_of_getElem? hyi))
        obtain ⟨pu, fu, au, gu⟩ := hok.el x u hxu
        obtain ⟨kvs, hkv2, hE2⟩ := s2.kk p kq hkq
        rw [knE] at hE2
        obtain ⟨v', hv'⟩ := hcl p hp x u hxu t ⟨htm, ht2⟩
        obtain ⟨pv, fv, av, gv⟩ := hok.el _ _ hv'
        have done1 : ∀ {E3 : List (Nat × Nat)}, (∀ e ∈ E2, e ∈ E3) → (x, nb) ∈ E3 → ∀ j' (x' : Nat), j' < j + 1 → ys[j']? = some (x' : Int) → (x', nb) ∈ E3 := fun hs hx j' x' hj' hy' => by
          rcases Nat.lt_or_eq_of_le (Nat.le_of_lt_succ hj') with z | z
          · exact hs _ (hdn j' x' z hy')
          · subst z
            rw [hyi] at hy'
            have := Option.some.inj hy'
            have e : x' = x := by omega
            rw [e]
            exact hx
        refine q_when (b := decide ((x, nb) ∈ E2)) (et_B (ev_dinT (ev_var rfl) (ev_var rfl) (ev_var rfl) hkv2 hE2)) (fun hb H8 e8 => ?_) (fun hb H8 e8 => ?_)
        · exact ⟨E2, _, _, _, rfl, Stex ⟨s1, s2, s3, s4, s5, s6⟩ e8, hsub, fz_ex e8 fv2, e8 _ _ hsl2, done1 (fun e he => he) (of_decide_eq_true hb)⟩
        · have hnot := of_decide_eq_false hb
          -- known[to, number] = True
          refine q_asgM (ev_c H8 (Ex.refl _) _ fun H9 e9 => ?_)
          refine ev_var rfl H9 (Ex.refl _) _ fun H10 e10 => ?_
          refine (Evl.ea_cons (ev_var rfl) (Evl.ea_cons (ev_var rfl) Evl.ea_nil)) H10 (Ex.refl _) _ fun H11 e11 => ⟨sz_of (show 2 ≤ 100000 by decide), fun b hb11 => ?_⟩
          have e711 := e8.trans (e9.trans (e10.trans e11))
          have e7b := e711.trans (Ex.new (o := .tup [.int (x : Int), .int (nb : Int)]) hb11)
          have hElen : kvs.length < sizeLine := by
            have h1 := congrArg List.length hE2.1
            rw [List.length_map, List.length_map] at h1
            have h2 := pairs_len (n := n) (m := c.strong.length) hn (by omega) hE2.2 fun e he => by
              obtain ⟨u', s', v'', g1, g2, _⟩ := s4 p hp e.1 e.2 (by rw [knE]; exact he)
              exact ⟨hok.key_lt hp g1, (List.getElem?_eq_some_iff.mp g2).1⟩
            rw [h1]
            exact Nat.lt_of_le_of_lt h2 (by decide)
          have hnone : valV kvs [(Sum.inl (x : Int) : Key), (Sum.inl (nb : Int) : Key)] = none := by
            have := hE2.get x nb
            rw [decide_eq_false hnot] at this
            cases hvv : valV kvs [(Sum.inl (x : Int) : Key), (Sum.inl (nb : Int) : Key)] with
            | none => rfl
            | some _ =>
              rw [hvv] at this
              cases this
          refine ⟨kq, _, rfl, DPut.t (k := [(Sum.inl (x : Int) : Key), (Sum.inl (nb : Int) : Key)]) (e7b _ _ hkv2) upd_same hElen, ?_⟩
          rw [putK_new _ hnone]
          generalize hG0 : upd H11 b (.tup [.int (x : Int), .int (nb : Int)]) = G0 at e7b
          have hE3 : KL (E2 ++ [(x, nb)]) (kvs ++ [([(Sum.inl (x : Int) : Key), (Sum.inl (nb : Int) : Key)], V.bl true)]) := by
            refine ⟨by rw [List.map_append, List.map_append, hE2.1]; rfl, ?_⟩
            rw [List.nodup_append]
            exact ⟨hE2.2, by simp, fun y hy z hz w => hnot (by rw [List.mem_singleton.mp hz] at w; exact w ▸ hy)⟩
          have L3 := (s2.ex e7b).setKn (by show (c.known.set p E2).length = n; rw [List.length_set]; exact hcn) hkq hE3
          have ss : (c.setKn p E2).setKn p (E2 ++ [(x, nb)]) = c.setKn p (E2 ++ [(x, nb)]) := by
            unfold Ch.setKn
            rw [List.set_set]
          rw [ss] at L3
          have tx3 := (s2.ex e7b).tex (OBut.put (u := .dT (kvs ++ [([(Sum.inl (x : Int) : Key), (Sum.inl (nb : Int) : Key)], V.bl true)])) hko)
          have klne : kl ≠ kq := fun z => nkl (z ▸ hko)
          have slne : sl ≠ kq := fun z => nsl (z ▸ hko)
          have oB : OBut (o.all a) H (upd G0 kq (.dT (kvs ++ [([(Sum.inl (x : Int) : Key), (Sum.inl (nb : Int) : Key)], V.bl true)]))) := (s3.ex e7b).mut hko
          have kl3 : upd G0 kq (.dT (kvs ++ [([(Sum.inl (x : Int) : Key), (Sum.inl (nb : Int) : Key)], V.bl true)])) kl = some (.lst kx) := by
            rw [upd_ne klne]
            exact e7b _ _ s5
          have sl3 : upd G0 kq (.dT (kvs ++ [([(Sum.inl (x : Int) : Key), (Sum.inl (nb : Int) : Key)], V.bl true)])) sl = some (.lst (ys.map V.int)) := by
            rw [upd_ne slne]
            exact e7b _ _ hsl2
          generalize hG3 : upd G0 kq (.dT (kvs ++ [([(Sum.inl (x : Int) : Key), (Sum.inl (nb : Int) : Key)], V.bl true)])) = G3 at L3 tx3 oB kl3 sl3
          have txx : TEx H7 G3 := (tex_of e7b).trans tx3
          have fv3 : Fz K G3 (tN t) v2 := Fz.mono txx _ _ fv2
          have fk3 : FzL K G3 ((keepers c.strong p).map kD) kx := FzL.mono txx _ _ s6
          have hsub3 : ∀ e ∈ c.kn p, e ∈ E2 ++ [(x, nb)] := fun e he => List.mem_append_left _ (s1 e he)
          have hin3 : (x, nb) ∈ E2 ++ [(x, nb)] := List.mem_append_right _ (List.mem_singleton.mpr rfl)
          have hlx := look_of hok.nd hxu
          have hlv := look_of hok.nd hv'
          have lane3 : (c.setKn p (E2 ++ [(x, nb)])).lane p = c.lane p := rfl
          obtain ⟨kv3, hkv3, hD3⟩ := L3.dk p q hq
          have ptu := thn_isP pu pt
          have py := thn_isP ptu (und_isP pv)
          have hfix : Fix (p + 1) (thn (thn u t) (invN n v')) := fun m hm => by
            rw [ap_thn (by rw [isP_len ptu]; omega), ap_thn (by rw [isP_len pu]; omega)]
            rcases Nat.lt_or_eq_of_le (Nat.le_of_lt_succ hm) with z | z
            · rw [fu m z, ht2 m z]
              exact fix_und (Nat.le_of_lt hp) pv fv m z
            · subst z
              rw [au, ← av]
              exact und_ap pv hp
          -- made
          refine q_asgD (d := tN (thn u t)) (ed_call (ea_d (ed_getD (ev_var rfl) (ev_var rfl) hkv3 hD3 hlx) (ea_d (ed_var rfl fv3) ea_nil)) (pr_D ⟨n, u, t, rfl, by omega, pu, pt, rfl⟩)) fun vm G4 e4 fm => ?_
          have emade : Ev (tOp (rIxT K) (tVar 7) (tVar 1)) [some (.ref a), some (.int (p : Int)), some (.ref q), some (.ref kq), some (.int (nb : Int)), some v2, some (.int (x : Int)), some vm, z8] G4 (.int ((ap t x : Nat) : Int)) :=
            ev_int (ed_ixT (ed_var rfl fm) (ev_var rfl) (rNs_get (by
              have h1 := ap_get (u := thn u t) (i := p) (by rw [isP_len ptu]; exact hp)
              rw [ap_thn (by rw [isP_len pu]; exact hp), au] at h1
              exact h1)))
          refine q_asgD (d := tN (sift n c (p + 1) (thn (thn u t) (invN n v')))) (ed_meth (ev_var rfl) (L3.ex e4).slt (ea_d (ed_call (ea_d (ed_var rfl fm) (ea_d (ed_call (ea_d (ed_getD (ev_var rfl) emade (e4 _ _ hkv3) (hD3.tex (tex_of e4)) hlv) ea_nil) (pr_D ⟨n, v', rfl, by omega, pv, rfl⟩)) ea_nil)) (pr_D ⟨n, thn u t, invN n v', rfl, by omega, ptu, und_isP pv, rfl⟩)) (ea_v (ev_is (ev_op (ev_var rfl) ev_c rv_I0) (w := .int ((p + 1 : Nat) : Int)) rfl) ea_nil)) fun G5 e5 ws hw Q2 hQ2 => ?_) fun vl G5 e5 fl => ?_
          · obtain ⟨y1, y2, rfl, hy1, hy2⟩ := agl2 hw
            replace hy2 := agv hy2
            subst hy2
            exact ⟨a, o, n, c.setKn p (E2 ++ [(x, nb)]), y1, _, p + 1, rfl, (L3.ex e4).ex e5, hc.setKn _ _, by omega, agd hy1, py, by omega, hQ2⟩
          · obtain ⟨g, hg, hyg, pr, fr, hor⟩ := sift_ok hc (n - (p + 1)) (p + 1) _ (by omega) py hfix
            generalize hr0 : sift n c (p + 1) (thn (thn u t) (invN n v')) = r at fl hyg pr fr hor
            have e35 := e4.trans e5
            have L5' := L3.ex e35
            have hfm : Ed K (SlX.tMethSl C (spFirst K) E0 (tVar 0) (tCons (tVar 8) tNil)) [some (.ref a), some (.int (p : Int)), some (.ref q), some (.ref kq), some (.int (nb : Int)), some v2, some (.int (x : Int)), some vm, some vl] G5 (fmD r) :=
              ed_meth (as := [.d (tN r)]) (ev_var rfl) L5'.slt (ea_d (ed_var rfl fl) ea_nil) fun G6 e6' ws hw Q2 hQ2 => by
                obtain ⟨y1, rfl, hy1⟩ := agl1 hw
                exact ⟨_, y1, r, rfl, by rw [isP_len pr]; omega, agd hy1, hQ2⟩
            rcases hor with hone | ⟨q', hq1, hq2, hq3, hq4⟩
            · have hf0 : fmD r = .none := by
                unfold fmD
                rw [(firstMoved_one pr).mpr hone]
              refine s_when (b := false) (et_is (et_test (ev_notN (ev_ed (ed_is hfm hf0) fun _ _ => fz_nonI))) rfl) (fun z => nomatch z) fun _ G6 e6' => ?_
              have hgen : Gen n (Sp' c.strong (p + 1)) (thn (thn u t) (invN n v')) := by
                rw [hyg, hone, one_thn (hg.isP (spr_isP hc.isP))]
                exact hg
              have hkn3 := s4.add (hc.setKn _ _) hp (k := nb) hxu ht1 ht2 hv' hgen
              rw [knE, ss] at hkn3
              exact ⟨E2 ++ [(x, nb)], _, _, _, rfl, Stex ⟨hsub3, L3, oB, hkn3, kl3, fk3⟩ (e35.trans e6'), fun e he => List.mem_append_left _ (hsub e he), fz_ex (e35.trans e6') fv3, (e35.trans e6') _ _ sl3, done1 (fun e he => List.mem_append_left _ he) hin3⟩
            · have hL : Left n c r q' := ⟨pr, hq2, hq3, hq4⟩
              have hf0 : fmD r = .int (q' : Int) := by
                unfold fmD
                rw [hL.first hc]
              refine s_when (b := true) (et_is (et_test (ev_notN (ev_int (ed_is hfm hf0)))) (by rw [decide_eq_false (fun z => by cases z)]; rfl)) (fun _ G6 e6' => ?_) (fun z => nomatch z)
              have hgr : Gen n (Sp' c.strong 0) r := by
                have h1 : Gen n (Sp' c.strong 0) (thn (thn u t) (invN n v')) := Gen.thn (spr_isP hc.isP) (Gen.thn (spr_isP hc.isP) (Gen.sub (fun s hs => spr_le (Nat.zero_le p) hs) gu) (Gen.of (spr_isP hc.isP) ⟨htm, fun i hi => absurd hi (Nat.not_lt_zero _)⟩)) (Gen.und (spr_isP hc.isP) (Gen.sub (fun s hs => spr_le (Nat.zero_le p) hs) gv))
                have h2 := Gen.thn (spr_isP hc.isP) h1 (Gen.und (spr_isP hc.isP) (Gen.sub (fun s hs => spr_le (Nat.zero_le (p + 1)) hs) hg))
                rw [hyg, thn_cancel_und pr (hg.isP (spr_isP hc.isP))] at h2
                exact h2
              have hknA : KnOk n ((c.setKn p (E2 ++ [(x, nb)])).app r) := by
                have h1 : KnOk n ((c.setKn p E2).app r) := s4.app
                have hne := hL.not_one hc
                have hcA : ChOk n ((c.setKn p E2).app r) := (hc.setKn _ _).app pr hne
                have hPA : ∀ s, Sp' (c.strong ++ [r]) (p + 1) s → IsP n s := spr_isP (strong := c.strong ++ [r]) fun s hs => (hcA.st s hs).1
                have hgen : Gen n (Sp' (c.strong ++ [r]) (p + 1)) (thn (thn u t) (invN n v')) := by
                  rw [hyg]
                  exact Gen.thn hPA (Gen.of hPA ⟨List.mem_append_right _ (List.mem_singleton.mpr rfl), fr⟩) (Gen.sub (fun s hs => spr_app hs) hg)
                have ht1' : (c.strong ++ [r])[nb]? = some t := by
                  rw [List.getElem?_append_left (List.getElem?_eq_some_iff.mp ht1).1]
                  exact ht1
                have h2 := h1.add hcA hp (k := nb) hxu ht1' ht2 hv' hgen
                have e1 : ((c.setKn p E2).app r).kn p = E2 := knE E2
                have e2 : ((c.setKn p E2).app r).setKn p (E2 ++ [(x, nb)]) = (c.setKn p (E2 ++ [(x, nb)])).app r := by
                  rw [← ss]
                  rfl
                rw [e1, e2] at h2
                exact h2
              refine s_retD (ed_var rfl (fz_ex e6' fl)) fun v9 G7 e7' f9 => k2 _ G7 v9 r q' hsub3 (L3.ex (e35.trans (e6'.trans e7'))) (oB.ex (e35.trans (e6'.trans e7'))) hL (by omega) hgr hknA f9
      · obtain ⟨E2, z6, z7, z8, rfl, hS2, hsub, fv2, hsl2, hdn⟩ := h
        refine ⟨E2, _, _, _, _, _, rfl, hS2, fun j k s hj hks x u hxu => ?_⟩
        rcases Nat.lt_or_eq_of_le (Nat.le_of_lt_succ hj) with z | z
        · exact hsub _ (hdone j k s z hks x u hxu)
        · subst z
          rw [ht] at hks
          cases (Option.some.inj hks)
          have hxm : (x : Int) ∈ ys := hys.mem_iff.mpr (List.mem_map.mpr ⟨_, hxu, rfl⟩)
          obtain ⟨j', hj'⟩ := List.getElem?_of_mem hxm
          exact hdn j' x (by rw [List.length_map]; exact (List.getElem?_eq_some_iff.mp hj').1) hj'
    · obtain ⟨E, z4, z5, z6, z7, z8, rfl, hS, hdone⟩ := h
      refine s_ret ev_c fun H9 e9 => k1 E H9 hS.1 (hS.2.1.ex e9) (hS.2.2.1.ex e9) hS.2.2.2.1 fun x u k s hxu hks hf => ?_
      have hm := (keepers_mem hc.st).mpr ⟨hks, hf⟩
      obtain ⟨j, hj⟩ := List.getElem?_of_mem hm
      exact hdone j k s (by have := (List.getElem?_eq_some_iff.mp hj).1; omega) hj x u hxu
end
end WT
/-! Loops downwards; sizes of chains. -/
namespace WT
open PySem PySem.Spec PyProof.Rows L2 Evl
section
variable {K : PySem.W.Frag} {σ : L2.St} {H : Hp} {ta : TA} {tu tz : TS} {Dn : Ends}
/-- for x in range(m, -1, -1) -/
theorem s_forDn {m j : Nat} (h : EvA ta σ H [.int (m : Int), .int (-1), .int (-1)]) (hm : m ≤ 100000) (Pv : Nat → L2.St → Hp → Prop) (h0 : ∀ H1, Ex H H1 → Pv 0 σ H1)
    (hs : ∀ (i p : Nat) σ' H', p + i = m → Pv i σ' H' → tu { Dn with nx := Pv (i + 1), ct := Pv (i + 1), bk := Dn.nx } (σ'.set j (some (.int (p : Int)))) H') (hd : ∀ σ' H', Pv (m + 1) σ' H' → Dn.nx σ' H') : tFor (iRng3 ta) (gName j) tu Dn σ H :=
  h H (Ex.refl H) _ fun H1 e => ⟨(m : Int), -1, -1, m + 1, rfl, by
    have := RgC.neg (i := (m : Int)) (j := -1) (by omega) (by omega) (by omega) (by omega)
    have e1 : ((m : Int) - (-1)).toNat = m + 1 := by omega
    rw [e1] at this
    exact this, for_it (walk_rangeC (lo := (m : Int)) (c := -1) (n := m + 1)) Pv (h0 H1 e) (fun _ _ _ _ _ => trivial) (fun i x σ' H' H'' hi p hy => by
    obtain ⟨rfl, rfl⟩ := hy
    show tu _ (σ'.set j (some (.int ((m : Int) + (i : Int) * -1)))) _
    have e1 : (m : Int) + (i : Int) * (-1) = ((m - i : Nat) : Int) := by omega
    rw [e1]
    exact hs i (m - i) σ' _ (by omega) p) hd⟩
theorem q_forDn {m j : Nat} (h : EvA ta σ H [.int (m : Int), .int (-1), .int (-1)]) (hm : m ≤ 100000) (Pv : Nat → L2.St → Hp → Prop) (h0 : ∀ H1, Ex H H1 → Pv 0 σ H1)
    (hs : ∀ (i p : Nat) σ' H', p + i = m → Pv i σ' H' → tu { Dn with nx := Pv (i + 1), ct := Pv (i + 1), bk := tz Dn } (σ'.set j (some (.int (p : Int)))) H') (hd : ∀ σ' H', Pv (m + 1) σ' H' → tz Dn σ' H') : tSeq (tFor (iRng3 ta) (gName j) tu) tz Dn σ H := s_forDn (Dn := { Dn with nx := tz Dn }) h hm Pv h0 hs hd
end
/-! ### sizes -/
theorem nodup_le {α : Type} [DecidableEq α] {l m : List α} (nd : l.Nodup) (h : ∀ x ∈ l, x ∈ m) : l.length ≤ m.length := by
  induction l generalizing m with
  | nil => exact Nat.zero_le _
  | cons x l ih =>
    obtain ⟨n1, n2⟩ := List.nodup_cons.mp nd
    have hx := h x List.mem_cons_self
    have h1 := ih (m := m.erase x) n2 fun y hy => (List.mem_erase_of_ne (show y ≠ x from fun z => n1 (z ▸ hy))).mpr (h y (List.mem_cons_of_mem _ hy))
    rw [List.length_erase_of_mem hx] at h1
    have : 0 < m.length := List.length_pos_of_mem hx
    rw [List.length_cons]
    omega
def tot (n : Nat) (c : Ch) : Nat := ((List.range n).map fun p => (c.lane p).length).sum
theorem sum_le {l : List Nat} {f g : Nat → Nat} (h : ∀ x ∈ l, f x ≤ g x) : (l.map f).sum ≤ (l.map g).sum := by
  induction l with
  | nil => exact Nat.le_refl _
  | cons x l ih =>
    rw [List.map_cons, List.map_cons, List.sum_cons, List.sum_cons]
    have h1 := h x List.mem_cons_self
    have h2 := ih fun y hy => h y (List.mem_cons_of_mem _ hy)
    omega
theorem sum_lt {l : List Nat} {f g : Nat → Nat} (h : ∀ x ∈ l, f x ≤ g x) {q : Nat} (hq : q ∈ l) (hlt : f q < g q) : (l.map f).sum < (l.map g).sum := by
  induction l with
  | nil => cases hq
  | cons x l ih =>
    rw [List.map_cons, List.map_cons, List.sum_cons, List.sum_cons]
    have h1 := h x List.mem_cons_self
    have hl := fun y hy => h y (List.mem_cons_of_mem x hy)
    rcases List.mem_cons.mp hq with z | z
    · subst z
      have h2 := sum_le hl
      omega
    · have h2 := ih hl z
      omega
theorem lane_nd {n p : Nat} {strong : List (List Nat)} {L : LaneT} (h : LaneOk n p strong L) : L.Nodup := by
  have := h.nd
  refine List.pairwise_iff_getElem.mpr fun i j hi hj hij z => ?_
  have h1 := List.pairwise_iff_getElem.mp this i j (by rw [List.length_map]; exact hi) (by rw [List.length_map]; exact hj) hij
  simp only [List.getElem_map] at h1
  exact h1 (by rw [z])
theorem tot_le {n : Nat} {c : Ch} (h : ChOk n c) : tot n c ≤ n * n := by
  have h1 : tot n c ≤ ((List.range n).map fun _ => n).sum := sum_le fun p hp => (h.ok p (List.mem_range.mp hp)).size (List.mem_range.mp hp)
  have h2 : ((List.range n).map fun _ => n).sum = n * n := by
    have : (List.range n).map (fun _ => n) = List.replicate n n := by
      rw [List.eq_replicate_iff]
      exact ⟨by simp, fun b hb => by obtain ⟨_, _, rfl⟩ := List.mem_map.mp hb; rfl⟩
    rw [this, List.sum_replicate_nat]
  omega
/-- lanes grown -/
def Grown (n : Nat) (c c' : Ch) : Prop := ∀ p, p < n → ∀ e ∈ c.lane p, e ∈ c'.lane p
theorem Grown.refl (n : Nat) (c : Ch) : Grown n c c := fun _ _ _ h => h
theorem Grown.trans {n : Nat} {c c1 c2 : Ch} (a : Grown n c c1) (b : Grown n c1 c2) : Grown n c c2 := fun p hp e h => b p hp e (a p hp e h)
theorem tot_mono {n : Nat} {c c' : Ch} (h : ChOk n c) (g : Grown n c c') : tot n c ≤ tot n c' := sum_le fun p hp => nodup_le (lane_nd (h.ok p (List.mem_range.mp hp))) (g p (List.mem_range.mp hp))
theorem tot_lt {n : Nat} {c c' : Ch} (h : ChOk n c) (g : Grown n c c') {q : Nat} (hq : q < n) {e : Nat × List Nat} (he : e ∈ c'.lane q) (hn : e ∉ c.lane q) : tot n c < tot n c' := by
  refine sum_lt (fun p hp => nodup_le (lane_nd (h.ok p (List.mem_range.mp hp))) (g p (List.mem_range.mp hp))) (List.mem_range.mpr hq) ?_
  have := nodup_le (l := e :: c.lane q) (m := c'.lane q) (List.nodup_cons.mpr ⟨hn, lane_nd (h.ok q hq)⟩) fun x hx => by
    rcases List.mem_cons.mp hx with z | z
    · exact z ▸ he
    · exact g q hq x z
  rw [List.length_cons] at this
  exact this
/-- what is left makes its lane grow -/
theorem left_grows {n : Nat} {c c' : Ch} {r : List Nat} {q : Nat} (h : ChOk n c) (hl : Left n c r q) (g : Grown n c c') (hs : c'.strong = c.strong ++ [r]) (hcl : Closed q c'.strong (c'.lane q)) : tot n c < tot n c' := by
  have hb := g q hl.lt _ (h.ok q hl.lt).base
  obtain ⟨v, hv⟩ := hcl _ _ hb r ⟨by rw [hs]; exact List.mem_append_right _ (List.mem_singleton.mpr rfl), hl.fix⟩
  exact tot_lt h g hl.lt hv (look_none.mp hl.new v)
end WT
/-! The class Lanes, read: taking, counting. -/
namespace WT
open PySem PySem.Spec PyProof.Rows L2 Evl
abbrev s_Lanes_first_left : Stmt := inClass (top 14) 5
abbrev N_Lanes_first_left : List Str := ["self", "start", "place", "left"]
theorem sc_Lanes_first_left : FnScope N_Lanes_first_left ["self", "start"] (defScope s_Lanes_first_left) := ⟨rfl, rfl, rfl, by decide +kernel, rfl, by decide +kernel, by decide +kernel⟩
/-- the first thing left at any place, if any -/
def spFirstLeft (K : PySem.W.Frag) (C : Addr) : Sp := fun vs H Q _ => ∃ (a : Addr) (o : LOwn) (n : Nat) (c : Ch) (q : Nat), vs = [.ref a, .int (q : Int)] ∧ LAt K C a o n c H ∧ ChOk n c ∧ KnOk n c ∧ (∀ p, q < p → p < n → Closed p c.strong (c.lane p)) ∧ n ≤ 60 ∧ c.strong.length ≤ 20000 ∧ q < n ∧
  (∀ c' H', LAt K C a o n c' H' → OBut (o.all a) H H' → Full n c' → c'.strong = c.strong → Grown n c c' → Q .non H') ∧
  ∀ c' H' v r q', LAt K C a o n c' H' → OBut (o.all a) H H' → ChOk n c' → KnOk n (c'.app r) → AllClosed n c' → c'.strong = c.strong → Grown n c c' → Left n c' r q' → Gen n (Sp' c.strong 0) r → Fz K H' (tN r) v → Q v H'
section
variable {P : Program} {w : World} {K : PySem.W.Frag} {mg : Str → Option Value} {base : Heap} {C : Addr}
theorem ok_Lanes_first_left (B : Bt mg) (c_Lanes : LCls K C) (o_Lanes_widen : Okm P w K mg base C "widen" 3 (spWiden K C)) (o_Lanes_left_at : Okm P w K mg base C "left_at" 3 (spLeftAt K C)) (d : MethIn K C "first_left" "Lanes.first_left" ["self", "start"] s_Lanes_first_left) : Okm P w K mg base C "first_left" 4 (spFirstLeft K C) := by
  refine Okm.mk d sc_Lanes_first_left (fun vs H Q E h => ?_) (fun f cdv A outer s H vs Q E hr h => ?_)
  · obtain ⟨a, o, n, c, q, rfl, _⟩ := h
    rfl
  · obtain ⟨a, o, n, c, q, rfl, L, hc, hkn, hcl, hn, hsz, hq, k1, k2⟩ := h
    refine ⟨_, (pss_cons (ps_for PassesOwn.never rfl (pi_range3 (by rfl) B.range (pa_cons (pv 1) (pa_cons (pe_un un_neg pe_int) (pa_cons (pe_un un_neg pe_int) pa_nil)))) (pg_name (i := 2) sc_Lanes_first_left.nd rfl (Or.inl rfl)) (pss_one (ps_expr (pe_meth (pv 0) c_Lanes.cl o_Lanes_widen (hr.mono (by decide)) (pa_cons (pv 2) pa_nil)))))
      (pss_cons (ps_for PassesOwn.never rfl (pi_range3 (by rfl) B.range (pa_cons (pe_op op_sub (SlX.pe_sl (pv 0)) pe_int) (pa_cons (pe_un un_neg pe_int) (pa_cons (pe_un un_neg pe_int) pa_nil)))) (pg_name (i := 2) sc_Lanes_first_left.nd rfl (Or.inl rfl)) (pss_cons (ps_set (i := 3) sc_Lanes_first_left.nd rfl (Or.inl rfl) (pe_meth (pv 0) c_Lanes.cl o_Lanes_left_at (hr.mono (by decide)) (pa_cons (pv 2) pa_nil)))
        (pss_one (ps_if (pt_cmpR op_notN (pv 3) pe_non (nomark _)) (pss_one (ps_ret (pv 3))) pss_nil))))
      (pss_one (ps_ret pe_non)))), ?_⟩
    refine q_forDn (m := q) (Evl.ea_cons (ev_var rfl) (Evl.ea_cons (ev_un ev_c ru_neg) (Evl.ea_cons (ev_un ev_c ru_neg) Evl.ea_nil))) (by omega) (fun i σ' H' => ∃ c1 z2, σ' = [some (.ref a), some (.int (q : Int)), z2, none] ∧ LAt K C a o n c1 H' ∧ OBut (o.all a) H H' ∧ ChOk n c1 ∧ KnOk n c1 ∧ c1.strong = c.strong ∧ Grown n c c1 ∧ ∀ p, q < p + i → p < n → Closed p c1.strong (c1.lane p)) (fun H1 e1 => ⟨c, none, rfl, L.ex e1, OBut.of e1, hc, hkn, rfl, Grown.refl n c, fun p hp => hcl p (by omega)⟩) (fun i p σ' H' hip h => ?_) (fun σ' H' h => ?_)
    · obtain ⟨c1, z2, rfl, L1, oB, hc1, hkn1, hs1, hg1, hcl1⟩ := h
      have hpn : p < n := by omega
      refine s_dropM (c_meth (ev_var rfl) L1.slt fun H2 e2 => Evl.ea_cons (ev_var rfl) Evl.ea_nil H2 (Ex.refl _) _ fun H3 e3 => ⟨a, o, n, c1, p, rfl, L1.ex (e2.trans e3), hc1, by omega, by rw [hs1]; exact hsz, hpn, fun M H4 L4 oB4 hM hsub hclM => ?_⟩)
      refine ⟨c1.setLane p M, _, rfl, L4, (oB.ex (e2.trans e3)).trans oB4, hc1.setLane hpn hM, hkn1.setLane hc1 hpn hsub, hs1, fun p' hp' e he => ?_, fun p' hp' hpn' => ?_⟩
      · rw [lane_set (by rw [hc1.nl]; exact hpn)]
        have he1 := hg1 p' hp' e he
        split
        · rename_i z
          rw [z] at he1
          exact hsub e he1
        · exact he1
      · rw [lane_set (by rw [hc1.nl]; exact hpn)]
        split
        · rename_i z
          rw [z]
          exact hclM
        · exact hcl1 p' (by omega) hpn'
    · obtain ⟨c1, z2, rfl, L1, oB, hc1, hkn1, hs1, hg1, hcl1⟩ := h
      have hac : AllClosed n c1 := fun p hp => hcl1 p (by omega) hp
      obtain ⟨m, hm⟩ : ∃ m, n = m + 1 := ⟨n - 1, by omega⟩
      refine q_forDn (m := m) (Evl.ea_cons (ev_is (ev_op (ev_amount c_Lanes L1 (ev_var rfl)) ev_c rv_I0) (by congr 1; omega)) (Evl.ea_cons (ev_un ev_c ru_neg) (Evl.ea_cons (ev_un ev_c ru_neg) Evl.ea_nil))) (by omega) (fun i σ' H' => ∃ c2 z2 z3, σ' = [some (.ref a), some (.int (q : Int)), z2, z3] ∧ LAt K C a o n c2 H' ∧ OBut (o.all a) H H' ∧ ChOk n c2 ∧ KnOk n c2 ∧ c2.strong = c.strong ∧ c2.lanes = c1.lanes ∧ ∀ p, m < p + i → p < n → ∀ x u k s, (x, u) ∈ c2.lane p → c2.strong[k]? = some s → Fix p s → (x, k) ∈ c2.kn p) (fun H2 e2 => ⟨c1, _, none, rfl, L1.ex e2, oB.ex e2, hc1, hkn1, hs1, rfl, fun p hp hpn => by omega⟩) (fun i p σ' H' hip h => ?_) (fun σ' H' h => ?_)
      · obtain ⟨c2, z2', z3, rfl, L2', oB2, hc2, hkn2, hs2, hl2, hall⟩ := h
        have hpn : p < n := by omega
        have hac2 : AllClosed n c2 := fun p' hp' => by
          have := hac p' hp'
          unfold Ch.lane at this ⊢
          rw [hl2, hs2, ← hs1]
          exact this
        have hg2 : Grown n c c2 := fun p' hp' e he => by
          have := hg1 p' hp' e he
          unfold Ch.lane at this ⊢
          rw [hl2]
          exact this
        refine q_asgMX (P := fun v H4 => (∃ E, v = .non ∧ (∀ e ∈ c2.kn p, e ∈ E) ∧ LAt K C a o n (c2.setKn p E) H4 ∧ OBut (o.all a) H H4 ∧ KnOk n (c2.setKn p E) ∧ ∀ x u k s, (x, u) ∈ c2.lane p → c2.strong[k]? = some s → Fix p s → (x, k) ∈ E) ∨
          ∃ E r q', LAt K C a o n (c2.setKn p E) H4 ∧ OBut (o.all a) H H4 ∧ Left n c2 r q' ∧ Gen n (Sp' c2.strong 0) r ∧ KnOk n ((c2.setKn p E).app r) ∧ Fz K H4 (tN r) v) (fun Q2 hQ2 => ?_) (fun v H4 hv => ?_)
        · refine c_meth (ev_var rfl) L2'.slt fun H2 e2 => Evl.ea_cons (ev_var rfl) Evl.ea_nil H2 (Ex.refl _) _ fun H3 e3 => ⟨a, o, n, c2, p, rfl, L2'.ex (e2.trans e3), hc2, hkn2, hac2, hn, by rw [hs2]; exact hsz, hpn, fun E H4 g1 g2 g3 g4 g5 => hQ2 _ _ (.inl ⟨E, rfl, g1, g2, (oB2.ex (e2.trans e3)).trans g3, g4, g5⟩), fun E H4 v r q' g1 g2 g3 g4 g5 g6 g7 g8 => hQ2 _ _ (.inr ⟨E, r, q', g2, (oB2.ex (e2.trans e3)).trans g3, g4, g6, g7, g8⟩)⟩
        · rcases hv with ⟨E, rfl, g1, g2, g3, g4, g5⟩ | ⟨E, r, q', g2, g3, g4, g6, g7, g8⟩
          · refine s_when (b := false) (et_is (et_test (ev_notN (ev_var rfl))) rfl) (fun z => nomatch z) fun _ H5 e5 => ⟨c2.setKn p E, _, _, rfl, g2.ex e5, g3.ex e5, hc2.setKn p E, g4, hs2, hl2, fun p' hp' hpn' x u k s hx hk hf => ?_⟩
            rw [kn_set (by rw [hc2.nk]; exact hpn)]
            split
            · rename_i z
              subst z
              exact g5 x u k s hx hk hf
            · exact hall p' (by omega) hpn' x u k s hx hk hf
          · obtain ⟨b, rfl, hb⟩ := fz_tN.mp g8
            refine s_when (b := true) (et_is (et_test (ev_notN (v := .ref b) (ev_var rfl))) rfl) (fun _ H5 e5 => s_retD (ed_var rfl (fz_ex e5 g8)) fun v6 H6 e6 f6 => k2 (c2.setKn p E) H6 v6 r q' (g2.ex (e5.trans e6)) (g3.ex (e5.trans e6)) (hc2.setKn p E) g7 hac2 hs2 hg2 ⟨g4.isP, g4.lt, g4.fix, g4.new⟩ (by rw [← hs2]; exact g6) f6) (fun z => nomatch z)
      · obtain ⟨c2, z2', z3, rfl, L2', oB2, hc2, hkn2, hs2, hl2, hall⟩ := h
        have hac2 : AllClosed n c2 := fun p' hp' => by
          have := hac p' hp'
          unfold Ch.lane at this ⊢
          rw [hl2, hs2, ← hs1]
          exact this
        have hg2 : Grown n c c2 := fun p' hp' e he => by
          have := hg1 p' hp' e he
          unfold Ch.lane at this ⊢
          rw [hl2]
          exact this
        exact s_ret ev_c fun H5 e5 => k1 c2 H5 (L2'.ex e5) (oB2.ex e5) ⟨hc2, hkn2, hac2, fun p hp => hall p (by omega) hp⟩ hs2 hg2
end
abbrev s_Lanes_take : Stmt := inClass (top 14) 4
abbrev N_Lanes_take : List Str := ["self", "position", "left", "place"]
theorem sc_Lanes_take : FnScope N_Lanes_take ["self", "position"] (defScope s_Lanes_take) := ⟨rfl, rfl, rfl, by decide +kernel, rfl, by decide +kernel, by decide +kernel⟩
abbrev s_Lanes_has : Stmt := inClass (top 14) 10
abbrev N_Lanes_has : List Str := ["self", "position"]
theorem sc_Lanes_has : FnScope N_Lanes_has ["self", "position"] (defScope s_Lanes_has) := ⟨rfl, rfl, rfl, by decide +kernel, rfl, by decide +kernel, by decide +kernel⟩
/-- a chain that is whole, and how many strong ones it has at most -/
structure Whole (n : Nat) (c : Ch) : Prop where
  full : Full n c
  size : c.strong.length + n ≤ tot n c
theorem Whole.len {n : Nat} {c : Ch} (h : Whole n c) (hn : n ≤ 60) : c.strong.length ≤ 3600 := by
  have h1 := tot_le h.full.ok
  have h2 := h.size
  have : n * n ≤ 60 * 60 := Nat.mul_le_mul hn hn
  omega
def spTakeL (K : PySem.W.Frag) (C : Addr) : Sp := fun vs H Q _ => ∃ (a : Addr) (o : LOwn) (n : Nat) (c : Ch) (v : V) (u : List Nat), vs = [.ref a, v] ∧ LAt K C a o n c H ∧ Whole n c ∧ n ≤ 60 ∧ Fz K H (tN u) v ∧ IsP n u ∧
  ∀ c' H', LAt K C a o n c' H' → OBut (o.all a) H H' → Whole n c' → (∀ g, Gen n (Sp' c'.strong 0) g ↔ Gen n (fun s => s ∈ c.strong ∨ s = u) g) → Q .non H'
def spHas (K : PySem.W.Frag) (C : Addr) : Sp := fun vs H Q _ => ∃ (a : Addr) (o : LOwn) (n : Nat) (c : Ch) (v : V) (u : List Nat), vs = [.ref a, v] ∧ LAt K C a o n c H ∧ ChOk n c ∧ n ≤ 60 ∧ Fz K H (tN u) v ∧ IsP n u ∧ ∀ H', Ex H H' → Q (.bl (decide (sift n c 0 u = List.range n))) H'
section
variable {P : Program} {w : World} {K : PySem.W.Frag} {mg : Str → Option Value} {base : Heap} {C : Addr}
theorem ed_sift {E : XK} {a : Addr} {o : LOwn} {n : Nat} {c : Ch} {u : List Nat} {p : Nat} {σ : L2.St} {H : Hp} {ta tb tc : TE} (h : Ev ta σ H (.ref a)) (L : LAt K C a o n c H) (hc : ChOk n c) (hn : n ≤ 1000) (hu : IsP n u) (hp : p ≤ n) (h1 : Ed K tb σ H (tN u)) (h2 : Ev tc σ H (.int (p : Int))) : Ed K (SlX.tMethSl C (spSift K C) E ta (tCons tb (tCons tc tNil))) σ H (tN (sift n c p u)) :=
  ed_meth (as := [.d (tN u), .v (.int (p : Int))]) h L.slt (ea_d h1 (ea_v h2 ea_nil)) fun G5 e5 ws hw Q2 hQ2 => by
    obtain ⟨y1, y2, rfl, hy1, hy2⟩ := agl2 hw
    replace hy2 := agv hy2
    subst hy2
    exact ⟨a, o, n, c, y1, u, p, rfl, L.ex e5, hc, hn, agd hy1, hu, hp, hQ2⟩
theorem ed_first {E : XK} {a : Addr} {o : LOwn} {n : Nat} {c : Ch} {u : List Nat} {σ : L2.St} {H : Hp} {ta tb : TE} (h : Ev ta σ H (.ref a)) (L : LAt K C a o n c H) (hu : u.length ≤ 1000) (h1 : Ed K tb σ H (tN u)) : Ed K (SlX.tMethSl C (spFirst K) E ta (tCons tb tNil)) σ H (fmD u) :=
  ed_meth (as := [.d (tN u)]) h L.slt (ea_d h1 ea_nil) fun G6 e6' ws hw Q2 hQ2 => by
    obtain ⟨y1, rfl, hy1⟩ := agl1 hw
    exact ⟨_, y1, u, rfl, hu, agd hy1, hQ2⟩
theorem ok_Lanes_has (B : Bt mg) (c_Lanes : LCls K C) (o_Lanes_first_moved : Okm P w K mg base C "first_moved" 1 (spFirst K)) (o_Lanes_sifted : Okm P w K mg base C "sifted" 2 (spSift K C)) (d : MethIn K C "has" "Lanes.has" ["self", "position"] s_Lanes_has) : Okm P w K mg base C "has" 3 (spHas K C) := by
  refine Okm.mk d sc_Lanes_has (fun vs H Q E h => ?_) (fun f cdv A outer s H vs Q E hr h => ?_)
  · obtain ⟨a, o, n, c, v, u, rfl, _⟩ := h
    rfl
  · obtain ⟨a, o, n, c, v, u, rfl, L, hc, hn, fv, hu, k⟩ := h
    refine ⟨_, (pss_one (ps_ret (pe_cmpR op_isN (pe_meth (pv 0) c_Lanes.cl o_Lanes_first_moved (hr.mono (by decide)) (pa_cons (pe_meth (pv 0) c_Lanes.cl o_Lanes_sifted (hr.mono (by decide)) (pa_cons (pv 1) (pa_cons pe_int pa_nil))) pa_nil)) pe_non (nomark _)))), ?_⟩
    obtain ⟨g, hg, hyg, pr, fr, hor⟩ := sift_ok hc n 0 u (by omega) hu (fun i hi => absurd hi (Nat.not_lt_zero _))
    have hs := ed_sift (K := K) (C := C) (E := E0) (σ := start N_Lanes_has [.ref a, v]) (ta := tVar 0) (tb := tVar 1) (tc := tC (.int 0)) (p := 0) (ev_var rfl) L hc (by omega) hu (Nat.zero_le _) (ed_var rfl fv) ev_c
    have hf := ed_first (K := K) (C := C) (E := E0) (ta := tVar 0) (ev_var (i := 0) (σ := start N_Lanes_has [.ref a, v]) rfl) L (by rw [isP_len pr]; omega) hs
    refine s_retM ?_
    cases hq : firstMoved 0 (sift n c 0 u) with
    | none =>
      have hone := (firstMoved_one pr).mp hq
      have h0 : fmD (sift n c 0 u) = .none := by
        unfold fmD
        rw [hq]
      refine ev_isN (ev_ed (ed_is hf h0) fun _ _ => fz_nonI) H (Ex.refl _) _ fun H1 e1 => ?_
      have := k H1 e1
      rw [decide_eq_true hone] at this
      exact this
    | some q =>
      have hne : ¬ sift n c 0 u = List.range n := fun z => by
        rw [(firstMoved_one pr).mpr z] at hq
        cases hq
      have h0 : fmD (sift n c 0 u) = .int (q : Int) := by
        unfold fmD
        rw [hq]
      refine ev_isN (ev_int (ed_is hf h0)) H (Ex.refl _) _ fun H1 e1 => ?_
      have := k H1 e1
      rw [decide_eq_false hne] at this
      exact this
theorem ok_Lanes_take (B : Bt mg) (c_Lanes : LCls K C) (o_Lanes_first_moved : Okm P w K mg base C "first_moved" 1 (spFirst K)) (o_Lanes_sifted : Okm P w K mg base C "sifted" 2 (spSift K C)) (o_Lanes_first_left : Okm P w K mg base C "first_left" 4 (spFirstLeft K C)) (d : MethIn K C "take" "Lanes.take" ["self", "position"] s_Lanes_take) : Okm P w K mg base C "take" 5 (spTakeL K C) := by
  refine Okm.mk d sc_Lanes_take (fun vs H Q E h => ?_) (fun f cdv A outer s H vs Q E hr h => ?_)
  · obtain ⟨a, o, n, c, v, u, rfl, _⟩ := h
    rfl
  · obtain ⟨a, o, n, c, v, u, rfl, L, hw, hn, fv, hu, k⟩ := h
    have hc := hw.full.ok
    have hnn : n * n ≤ 60 * 60 := Nat.mul_le_mul hn hn
    refine ⟨_, (pss_cons (ps_set (i := 2) sc_Lanes_take.nd rfl (Or.inl rfl) (pe_meth (pv 0) c_Lanes.cl o_Lanes_sifted (hr.mono (by decide)) (pa_cons (pv 1) (pa_cons pe_int pa_nil))))
      (pss_cons (ps_set (i := 3) sc_Lanes_take.nd rfl (Or.inl rfl) (pe_meth (pv 0) c_Lanes.cl o_Lanes_first_moved (hr.mono (by decide)) (pa_cons (pv 2) pa_nil)))
      (pss_one (ps_while PassesOwn.never (pt_cmpR op_notN (pv 3) pe_non (nomark _)) (pss_cons (ps_expr (pe_bm PySem.F.plainAttrs_list PySem.F.slot_list_append PySem.F.type_list_append mt_append (SlX.pe_sl (pv 0)) (pa_cons (pv 2) pa_nil)))
        (pss_cons (ps_set (i := 2) sc_Lanes_take.nd rfl (Or.inl rfl) (pe_meth (pv 0) c_Lanes.cl o_Lanes_first_left (hr.mono (by decide)) (pa_cons (pv 3) pa_nil)))
        (pss_one (ps_set (i := 3) sc_Lanes_take.nd rfl (Or.inl rfl) (pe_ifExp (pt_cmpR op_isN (pv 2) pe_non (nomark _)) pe_non (pe_meth (pv 0) c_Lanes.cl o_Lanes_first_moved (hr.mono (by decide)) (pa_cons (pv 2) pa_nil))))))))))), ?_⟩
    obtain ⟨g, hg, hyg, pr, fr, hor⟩ := sift_ok hc n 0 u (by omega) hu (fun i hi => absurd hi (Nat.not_lt_zero _))
    refine q_asgD (ed_sift (ev_var rfl) L hc (by omega) hu (Nat.zero_le _) (ed_var rfl fv) (p := 0) ev_c) fun vl H1 e1 fl => ?_
    have pr' := pr
    refine q_asgD (ed_first (ev_var rfl) (L.ex e1) (by rw [isP_len pr]; omega) (ed_var rfl fl)) fun vp H2 e2 fp => ?_
    generalize hr0 : sift n c 0 u = r at fl fp hyg pr fr hor pr'
    have e02 := e1.trans e2
    -- what all come to
    let G0 : List Nat → Prop := Gen n (fun s => s ∈ c.strong ∨ s = u)
    have hT : ∀ s, (s ∈ c.strong ∨ s = u) → IsP n s := fun s hs => by
      rcases hs with z | z
      · exact hc.isP s z
      · exact z ▸ hu
    have hin : ∀ s, Sp' c.strong 0 s → G0 s := fun s hs => Gen.of hT (.inl hs.1)
    have hPst : ∀ s, Sp' c.strong 0 s → IsP n s := spr_isP hc.isP
    have hgG : G0 g := Gen.mono hT (fun s hs => hin s hs) hg
    have zfix : ∀ s : List Nat, Fix 0 s := fun s i hi => absurd hi (Nat.not_lt_zero _)
    let Lp : Nat → L2.St → Hp → Prop := fun m σ' H' => ∃ c1, LAt K C a o n c1 H' ∧ OBut (o.all a) H H' ∧ m = 3600 - tot n c1 ∧ c1.strong.length + n ≤ tot n c1 ∧ ((∃ z2, σ' = [some (.ref a), some v, z2, some .non] ∧ Full n c1 ∧ ∀ g, Gen n (Sp' c1.strong 0) g ↔ G0 g) ∨
      ∃ (r : List Nat) (vl : V) (q : Nat), σ' = [some (.ref a), some v, some vl, some (.int (q : Int))] ∧ Fz K H' (tN r) vl ∧ ChOk n c1 ∧ KnOk n (c1.app r) ∧ AllClosed n c1 ∧ Left n c1 r q ∧ ∀ g, Gen n (Sp' (c1.strong ++ [r]) 0) g ↔ G0 g)
    refine s_while Lp _ ⟨c, L.ex e02, OBut.of e02, rfl, hw.size, ?_⟩ (fun m σ' H' h => ?_)
    · rcases hor with hone | ⟨q, _, hq2, hq3, hq4⟩
      · have h0 : fmD r = .none := by
          unfold fmD
          rw [(firstMoved_one pr).mpr hone]
        rw [h0] at fp
        have := fz_nonI fp
        subst this
        refine .inl ⟨_, rfl, hw.full, fun g' => ⟨fun h => Gen.mono hT (fun s hs => hin s hs) h, fun h => Gen.mono hPst (fun s hs => ?_) h⟩⟩
        rcases hs with z | z
        · exact Gen.of hPst ⟨z, zfix s⟩
        · rw [z, hyg, hone, one_thn (hg.isP hPst)]
          exact hg
      · have hL : Left n c r q := ⟨pr, hq2, hq3, hq4⟩
        have h0 : fmD r = .int (q : Int) := by
          unfold fmD
          rw [hL.first hc]
        rw [h0] at fp
        have := fz_intI fp
        subst this
        have hPr : ∀ s, Sp' (c.strong ++ [r]) 0 s → IsP n s := fun s hs => by
          rcases List.mem_append.mp hs.1 with z | z
          · exact hc.isP s z
          · rw [List.mem_singleton.mp z]
            exact pr
        refine .inr ⟨r, vl, q, rfl, fz_ex e2 fl, hc, hw.full.kn.app, hw.full.cl, hL, fun g' => ⟨fun h => Gen.mono hT (fun s hs => ?_) h, fun h => Gen.mono hPr (fun s hs => ?_) h⟩⟩
        · rcases List.mem_append.mp hs.1 with z | z
          · exact Gen.of hT (.inl z)
          · rw [List.mem_singleton.mp z]
            have h1 : G0 u := Gen.of hT (.inr rfl)
            have h2 := Gen.thn hT h1 (Gen.und hT hgG)
            have e : thn u (invN n g) = r := by rw [hyg, thn_cancel_und pr (hg.isP hPst)]
            rw [e] at h2
            exact h2
        · rcases hs with z | z
          · exact Gen.of hPr ⟨List.mem_append_left _ z, zfix s⟩
          · rw [z, hyg]
            exact Gen.thn hPr (Gen.of hPr ⟨List.mem_append_right _ (List.mem_singleton.mpr rfl), zfix r⟩) (Gen.sub (fun s hs => spr_app hs) hg)
    · obtain ⟨c1, L1, oB, hm, hsz, hcase⟩ := h
      rcases hcase with ⟨z2, rfl, hf1, hG1⟩ | ⟨r1, vl1, q1, rfl, fl1, hc1, hk1, hcl1, hl1, hG1⟩
      · exact ⟨false, et_is (et_test (ev_notN (ev_var rfl))) rfl, (fun z => nomatch z), fun _ H3 e3 => k c1 H3 (L1.ex e3) (oB.ex e3) ⟨hf1, hsz⟩ hG1⟩
      · have htot := tot_le hc1
        refine ⟨true, et_is (et_test (ev_notN (ev_var rfl))) rfl, fun _ H3 e3 => ⟨fun σ' H' => ∃ m', m' < m ∧ Lp m' σ' H', fun σ' H' h => h, ?_⟩, (fun z => nomatch z)⟩
        obtain ⟨sx, hsx, fsx⟩ := (L1.ex e3).strong
        have hslen := fzl_len fsx
        rw [List.length_map] at hslen
        refine q_dropM (c_bm (ev_strong c_Lanes (L1.ex e3) (ev_var rfl) H3 (Ex.refl _) _ fun H4 e4 => ⟨.inl ⟨rfl, _, sq_of (e4 _ _ hsx)⟩, c_cons (ed_var (K := K) rfl (fz_ex (e3.trans e4) fl1) H4 (Ex.refl _) _ fun v5 H5 e5 f5 => c_nil ⟨o.sg, sx, v5, rfl, rfl, e5 _ _ (e4 _ _ hsx), sz_lt (by omega), ?_⟩)⟩))
        have L5 := (L1.ex (e3.trans (e4.trans e5))).app (e5 _ _ (e4 _ _ hsx)) (fzl_ex (e4.trans e5) fsx) f5
        have oB5 : OBut (o.all a) H (upd H5 o.sg (.lst (sx ++ [v5]))) := (oB.ex (e3.trans (e4.trans e5))).mut (L1.own).2.1
        generalize upd H5 o.sg (.lst (sx ++ [v5])) = G at L5 oB5
        have hne := hl1.not_one hc1
        have hcA : ChOk n (c1.app r1) := hc1.app hl1.isP hne
        refine q_asgMX (P := fun v6 H7 => ∃ c', LAt K C a o n c' H7 ∧ OBut (o.all a) H H7 ∧ c'.strong = c1.strong ++ [r1] ∧ Grown n c1 c' ∧ AllClosed n c' ∧ ((v6 = .non ∧ Full n c') ∨ ∃ r q', Fz K H7 (tN r) v6 ∧ ChOk n c' ∧ KnOk n (c'.app r) ∧ Left n c' r q' ∧ Gen n (Sp' c'.strong 0) r)) (fun Q2 hQ2 => ?_) (fun v6 H7 hv6 => ?_)
        · refine c_meth (ev_var rfl) L5.slt fun H6 e6 => Evl.ea_cons (ev_var rfl) Evl.ea_nil H6 (Ex.refl _) _ fun H7 e7 => ⟨a, o, n, c1.app r1, q1, rfl, L5.ex (e6.trans e7), hcA, hk1, fun p hp hpn x u' hx s hs => ?_, hn, ?_, hl1.lt, fun c' H8 g1 g2 g3 g4 g5 => hQ2 _ _ ⟨c', g1, (oB5.ex (e6.trans e7)).trans g2, g4, g5, g3.cl, .inl ⟨rfl, g3⟩⟩, fun c' H8 v' r' q' g1 g2 g3 g4 g5 g6 g7 g8 g9 g10 => hQ2 _ _ ⟨c', g1, (oB5.ex (e6.trans e7)).trans g2, g6, g7, g5, .inr ⟨r', q', g10, g3, g4, g8, by rw [g6]; exact g9⟩⟩⟩
          · have hs1 : Sp' c1.strong p s := by
              rcases List.mem_append.mp hs.1 with z | z
              · exact ⟨z, hs.2⟩
              · rw [List.mem_singleton.mp z] at hs
                exact absurd (hs.2 q1 hp) (hl1.ne hc1)
            exact hcl1 p hpn x u' hx s hs1
          · show (c1.strong ++ [r1]).length ≤ 20000
            rw [List.length_append]
            simp
            omega
        · obtain ⟨c', g1, g2, g3, g4, g5, g6⟩ := hv6
          have hgrow : tot n c1 < tot n c' := left_grows hc1 hl1 g4 g3 (g5 q1 hl1.lt)
          have hsz' : c'.strong.length + n ≤ tot n c' := by
            rw [g3, List.length_append]
            simp
            omega
          have hG' : ∀ g, Gen n (Sp' c'.strong 0) g ↔ G0 g := fun g => by rw [g3]; exact hG1 g
          have htot' : tot n c' ≤ n * n := by
            rcases g6 with ⟨_, g7⟩ | ⟨_, _, _, g7, _⟩
            · exact tot_le g7.ok
            · exact tot_le g7
          rcases g6 with ⟨rfl, g7⟩ | ⟨r', q', f6, g7, g8, g9, g10⟩
          · exact s_asg (ev_if (b := true) (et_is (et_test (ev_isN (ev_var rfl))) rfl) (fun _ => ev_c) (fun z => nomatch z)) fun H8 e8 => ⟨_, by omega, c', g1.ex e8, g2.ex e8, rfl, hsz', .inl ⟨_, rfl, g7, hG'⟩⟩
          · obtain ⟨b6, rfl, hb6⟩ := fz_tN.mp f6
            have h0 : fmD r' = .int (q' : Int) := by
              unfold fmD
              rw [g9.first g7]
            have hPc : ∀ s, Sp' c'.strong 0 s → IsP n s := spr_isP g7.isP
            refine s_asg (ev_if (b := false) (v := .int (q' : Int)) (et_is (et_test (ev_isN (v := .ref b6) (ev_var rfl))) rfl) (fun z => nomatch z) (fun _ => ev_int (ed_is (ed_first (ev_var rfl) g1 (by rw [isP_len g9.isP]; omega) (ed_var rfl f6)) h0))) fun H8 e8 => ⟨_, ?_, c', g1.ex e8, g2.ex e8, rfl, hsz', .inr ⟨r', _, q', rfl, fz_ex e8 f6, g7, g8, g5, g9, fun g => ?_⟩⟩
            · omega
            · rw [← hG' g]
              have hPr : ∀ s, Sp' (c'.strong ++ [r']) 0 s → IsP n s := fun s hs => by
                rcases List.mem_append.mp hs.1 with z | z
                · exact g7.isP s z
                · rw [List.mem_singleton.mp z]
                  exact g9.isP
              refine ⟨fun h => Gen.mono hPc (fun s hs => ?_) h, fun h => Gen.sub (fun s hs => spr_app hs) h⟩
              rcases List.mem_append.mp hs.1 with z | z
              · exact Gen.of hPc ⟨z, zfix s⟩
              · rw [List.mem_singleton.mp z]
                exact g10
end
abbrev s_Lanes_count : Stmt := inClass (top 14) 9
abbrev N_Lanes_count : List Str := ["self", "found", "lane"]
theorem sc_Lanes_count : FnScope N_Lanes_count ["self"] (defScope s_Lanes_count) := ⟨rfl, rfl, rfl, by decide +kernel, rfl, by decide +kernel, by decide +kernel⟩
def spCount (K : PySem.W.Frag) (C : Addr) : Sp := fun vs H Q _ => ∃ (a : Addr) (o : LOwn) (n : Nat) (c : Ch), vs = [.ref a] ∧ LAt K C a o n c H ∧ ChOk n c ∧ n ≤ 60 ∧ ∀ H', Ex H H' → Q (.int ((countF c.lanes : Nat) : Int)) H'
section
variable {P : Program} {w : World} {K : PySem.W.Frag} {mg : Str → Option Value} {base : Heap} {C : Addr}
theorem ok_Lanes_count (B : Bt mg) (c_Lanes : LCls K C) (d : MethIn K C "count" "Lanes.count" ["self"] s_Lanes_count) : Okm P w K mg base C "count" 1 (spCount K C) := by
  refine Okm.mk d sc_Lanes_count (fun vs H Q E h => ?_) (fun f cdv A outer s H vs Q E hr h => ?_)
  · obtain ⟨a, o, n, c, rfl, _⟩ := h
    rfl
  · obtain ⟨a, o, n, c, rfl, L, hc, hn, k⟩ := h
    have hcl := hc.nl
    have hdn := L.dn
    refine ⟨_, (pss_cons (ps_set (i := 1) sc_Lanes_count.nd rfl (Or.inl rfl) pe_int)
      (pss_cons (ps_for PassesOwn.never rfl (pi_list (SlX.pe_sl (pv 0))) (pg_name (i := 2) sc_Lanes_count.nd rfl (Or.inl rfl)) (pss_one (ps_set (i := 1) sc_Lanes_count.nd rfl (Or.inl rfl) (pe_op op_mul (pv 1) (pe_callB call_lenD (by rfl) B.len boot_len (pa_cons (pv 2) pa_nil))))))
      (pss_one (ps_ret (pv 1))))), ?_⟩
    refine q_asg ev_c fun H1 e1 => ?_
    have L1 := L.ex e1
    refine q_forL (a := o.ln) (xs := o.dl.map V.ref) (ev_lanes c_Lanes L1 (ev_var rfl)) (sq_of L1.lanes) (fun i σ' H' => ∃ z2, σ' = [some (.ref a), some (.int ((countF (c.lanes.take i) : Nat) : Int)), z2] ∧ Ex H H') (fun H2 e2 => ⟨none, rfl, e1.trans e2⟩) (fun i σ' H' _ h => ?_) (fun i x σ' H' hx h => ?_) (fun σ' H' h => ?_)
    · obtain ⟨_, _, e⟩ := h
      exact sq_of (L.ex e).lanes
    · obtain ⟨z2, rfl, e⟩ := h
      rw [List.getElem?_map] at hx
      obtain ⟨q, hq, rfl⟩ : ∃ q, o.dl[i]? = some q ∧ x = .ref q := by
        cases z : o.dl[i]? with
        | none => rw [z] at hx; cases hx
        | some q => rw [z] at hx; exact ⟨q, rfl, (Option.some.inj hx).symm⟩
      have hin : i < n := by
        have := (List.getElem?_eq_some_iff.mp hq).1
        omega
      obtain ⟨kvs, hk, hD⟩ := (L.ex e).dk i q hq
      have hlen : kvs.length = (c.lane i).length := by
        have := congrArg List.length hD.1
        rw [List.length_map, List.length_map] at this
        exact this
      have hli : c.lanes[i]? = some (c.lane i) := by
        unfold Ch.lane
        rw [List.getD_eq_getElem?_getD, List.getElem?_eq_getElem (by omega)]
        rfl
      have hsz := (hc.ok i hin).size hin
      have hstep : countF (c.lanes.take (i + 1)) = countF (c.lanes.take i) * (c.lane i).length := by
        unfold countF
        rw [take_get hli, List.map_append, List.foldl_append]
        rfl
      refine s_asg (v := .int ((countF (c.lanes.take (i + 1)) : Nat) : Int)) (ev_is (ev_op (y := .int ((c.lane i).length : Int)) (ev_var rfl) (fun H2 e2 Q2 q2 => ev_var (v := .ref q) rfl H2 (Ex.refl _) _ fun H3 e3 => ⟨q, kvs, rfl, (e2.trans e3) _ _ hk, by rw [hlen]; exact q2 H3 e3⟩) (rv_I (cMulR (by omega)))) ?_) fun H2 e2 => ⟨_, rfl, e.trans e2⟩
      rw [hstep]
      rfl
    · obtain ⟨z2, rfl, e⟩ := h
      rw [List.length_map, List.take_of_length_le (by omega)]
      exact s_ret (ev_var rfl) fun H2 e2 => k H2 (e.trans e2)
end
end WT
/-! Comprehensions whose elements are new objects of any kind. -/
namespace WT
open PySem PySem.Spec PyProof.Rows L2 Evl
/-- a new object of a kind -/
def ElO (te : TE) (σ : L2.St) (H : Hp) (Ob : Hp → HO → Prop) : Prop := ∀ H1, Ex H H1 → ∀ Q : VK, (∀ q u H2, H1 q = none → Ex H1 H2 → H2 q = some u → Ob H2 u → Q (.ref q) H2) → te σ H1 Q
/-- a new list of new objects -/
def ElOs (te : TE) (σ : L2.St) (H : Hp) (n : Nat) (Ob : Nat → Hp → HO → Prop) : Prop := ∀ H1, Ex H H1 → ∀ Q : VK, (∀ p ps H2, (∀ q ∈ p :: ps, H1 q = none) → (p :: ps).Nodup → Ex H1 H2 → H2 p = some (.lst (ps.map V.ref)) → ps.length = n → (∀ i q, ps[i]? = some q → ∃ u, H2 q = some u ∧ Ob i H2 u) → Q (.ref p) H2) → te σ H1 Q
section
variable {K : PySem.W.Frag} {σ : L2.St} {H H' : Hp} {te : TE} {ta : TA}
/-- over range(n) -/
theorem eo_lcRd {j : Nat} {vs : List Nat} {n : Nat} {Ob : Nat → Hp → HO → Prop} (h : EvA ta σ H [.int (n : Int)]) (hn : n ≤ 40000) (hw : ∀ x, wipe ((wipe σ vs).set j (some x)) vs = wipe σ vs) (hOb : ∀ i H1 H2 u, TEx H1 H2 → Ob i H1 u → Ob i H2 u)
    (hs : ∀ (i : Nat) H1, Ex H H1 → i < n → ElO te ((wipe σ vs).set j (some (.int (i : Int)))) H1 (Ob i)) : ElOs (tLc (iRng1 ta) (gName j) tYes te vs) σ H n Ob := fun H0 e Q q => h H0 e _ fun H1 e1 => ⟨n, rfl, by omega, by omega, fun Dl hD =>
  lc_range (lo := 0) (n := n) (fun i H' => Ex H1 H' ∧ ∃ ps, (∀ q ∈ Dl :: ps, H1 q = none) ∧ (Dl :: ps).Nodup ∧ H' Dl = some (.lst (ps.map V.ref)) ∧ ps.length = i ∧ ∀ i q, ps[i]? = some q → ∃ u, H' q = some u ∧ Ob i H' u)
    ⟨Ex.new hD, [], fun q hq => by rw [List.mem_singleton.mp hq]; exact hD, by simp, upd_same, rfl, fun i q hq => by simp at hq⟩ (fun i H' hi p => by
    have e0 : (0 : Int) + (i : Int) = (i : Int) := Int.zero_add _
    refine ⟨hw _, ?_⟩
    obtain ⟨p1, ps, p2, p3, p4, p5, p6⟩ := p
    have hi' : i < n := hi
    have hel := hs i H' ((e.trans e1).trans p1) hi'
    rw [← e0] at hel
    refine hel H' (Ex.refl _) _ fun z u H4 hz e4 hu ho => ?_
    have nz : z ∉ Dl :: ps := fun hm => by
      rcases List.mem_cons.mp hm with w | w
      · rw [w, p4] at hz
        cases hz
      · obtain ⟨k, hk⟩ := List.getElem?_of_mem w
        obtain ⟨u', hu', _⟩ := p6 k z hk
        rw [hu'] at hz
        cases hz
    have nD : z ≠ Dl := fun w => nz (w ▸ List.mem_cons_self)
    have h4 := e4 _ _ p4
    have tx : TEx H4 (upd H4 Dl (.lst (ps.map V.ref ++ [V.ref z]))) := tex_lst h4
    refine ⟨ps.map V.ref, h4, sz_lt (by rw [List.length_map]; omega), Ex.mut (p1.trans e4) (p2 _ List.mem_cons_self), ps ++ [z], fun y hy => ?_, ?_, ?_, ?_, fun k y hy => ?_⟩
    · rcases List.mem_cons.mp hy with w | w
      · exact w ▸ p2 _ List.mem_cons_self
      · rcases List.mem_append.mp w with w | w
        · exact p2 _ (List.mem_cons_of_mem _ w)
        · rw [List.mem_singleton.mp w]
          exact fresh_back p1 hz
    · rw [List.nodup_cons] at p3 ⊢
      refine ⟨fun hm => ?_, ?_⟩
      · rcases List.mem_append.mp hm with w | w
        · exact p3.1 w
        · exact nD (List.mem_singleton.mp w).symm
      · rw [List.nodup_append]
        exact ⟨p3.2, by simp, fun a ha b hb => by rw [List.mem_singleton.mp hb]; exact fun w => nz (w ▸ List.mem_cons_of_mem _ ha)⟩
    · rw [List.map_append]
      exact upd_same
    · rw [List.length_append, p5]
      rfl
    · rcases Nat.lt_or_ge k ps.length with w | w
      · rw [List.getElem?_append_left w] at hy
        obtain ⟨u', hu', ho'⟩ := p6 k y hy
        have ny : y ≠ Dl := fun w => (List.nodup_cons.mp p3).1 (w ▸ List.mem_of_getElem? hy)
        exact ⟨u', by rw [upd_ne ny]; exact e4 _ _ hu', hOb k _ _ _ ((tex_of e4).trans tx) ho'⟩
      · rw [List.getElem?_append_right w] at hy
        have hk : k - ps.length = 0 := by
          have := (List.getElem?_eq_some_iff.mp hy).1
          simp at this
          omega
        rw [hk] at hy
        cases (Option.some.inj hy)
        have ek : k = i := by omega
        subst ek
        exact ⟨u, by rw [upd_ne nD]; exact hu, hOb k _ _ _ tx ho⟩) (fun H' p => by
    obtain ⟨p1, ps, p2, p3, p4, p5, p6⟩ := p
    exact q Dl ps H' (fun z hz => fresh_back e1 (p2 z hz)) p3 (e1.trans p1) p4 p5 p6)⟩
end
end WT
/-! The class Lanes, read: made. -/
namespace WT
open PySem PySem.Spec PyProof.Rows L2 Evl
abbrev s_Lanes_init : Stmt := inClass (top 14) 1
abbrev N_Lanes_init : List Str := ["self", "many", "turns", "position", "place"]
theorem sc_Lanes_init : FnScope N_Lanes_init ["self", "many", "turns"] (defScope s_Lanes_init) := ⟨rfl, rfl, rfl, by decide +kernel, rfl, by decide +kernel, by decide +kernel⟩
/-- a chain of some turns made -/
def spInitL (K : PySem.W.Frag) (C : Addr) : Sp := fun vs H Q _ => ∃ (a dx : Addr) (n : Nat) (tv : V) (us : List (List Nat)), vs = [.ref a, .int (n : Int), tv] ∧ H a = some (.ins C dx []) ∧ dx ≠ a ∧ 1 ≤ n ∧ n ≤ 60 ∧ Fz K H (tNN us) tv ∧ (∀ u ∈ us, IsP n u) ∧ H dx = some (.own a) ∧
  ∀ o c H', LAt K C a o n c H' → o.dx = dx → (∀ q u, q ≠ a → q ≠ dx → H q = some u → H' q = some u) → (∀ q ∈ o.all a, q = a ∨ q = dx ∨ H q = none) → Whole n c → (∀ g, Gen n (Sp' c.strong 0) g ↔ Gen n (fun s => s ∈ us) g) → Q .non H'
section
variable {P : Program} {w : World} {K : PySem.W.Frag} {mg : Str → Option Value} {base : Heap} {C : Addr}
theorem ok_Lanes_init (B : Bt mg) (c_Lanes : LCls K C) (o_nothing : Okd P w K mg base "nothing" ["many"] s_nothing 1 (spD K 1 rNothing)) (o_Lanes_take : Okm P w K mg base C "take" 5 (spTakeL K C)) (d : MethIn K C "__init__" "Lanes.__init__" ["self", "many", "turns"] s_Lanes_init) : Okm P w K mg base C "__init__" 6 (spInitL K C) := by
  refine Okm.mk d sc_Lanes_init (fun vs H Q E h => ?_) (fun f cdv A outer s H vs Q E hr h => ?_)
  · obtain ⟨a, dx, n, tv, us, rfl, _⟩ := h
    rfl
  · obtain ⟨a, dx, n, tv, us, rfl, hA, hne, hn1, hn, ft, hus, hdx, k⟩ := h
    obtain ⟨pa, sa⟩ := c_Lanes.amount
    obtain ⟨pk, sk⟩ := c_Lanes.known
    obtain ⟨pl, sl⟩ := c_Lanes.lanes
    obtain ⟨ps, ss⟩ := c_Lanes.strong
    refine ⟨_, (pss_cons (ps_asg (pe_tup (pa_cons (pv 1) (pa_cons (pe_lst pa_nil) pa_nil))) (pg_tup (by rfl) (pgs_cons (pg_attr (pv 0)) (pgs_cons (pg_attr (pv 0)) pgs_nil))))
      (pss_cons (ps_asg (pe_lc (own := [("place", 4)]) rfl sc_Lanes_init.nd (pi_range1 (by rfl) B.range (pa_cons (pv 1) pa_nil)) (blkOk_by (own := [("place", 4)]) (N := N_Lanes_init) (sc := defScope s_Lanes_init) (by decide +kernel)) (fun _ _ _ _ _ => pg_name (i := 4) sc_Lanes_init.nd rfl (Or.inl rfl)) (fun _ _ _ _ _ => pts_nil) (fun _ _ _ _ _ => (pe_disp (pps_cons (pv 4) (pe_fn o_nothing (hr.mono (by decide)) (pa_cons (pv 1) pa_nil)) pps_nil) rfl rfl (by simp) (by decide)))) (pg_attr (pv 0)))
      (pss_cons (ps_asg (pe_lc (own := [("place", 4)]) rfl sc_Lanes_init.nd (pi_range1 (by rfl) B.range (pa_cons (pv 1) pa_nil)) (blkOk_by (own := [("place", 4)]) (N := N_Lanes_init) (sc := defScope s_Lanes_init) (by decide +kernel)) (fun _ _ _ _ _ => pg_name (i := 4) sc_Lanes_init.nd rfl (Or.inl rfl)) (fun _ _ _ _ _ => pts_nil) (fun _ _ _ _ _ => pe_dnewT)) (pg_attr (pv 0)))
      (pss_one (ps_for PassesOwn.never rfl (pi_tup (pv 2)) (pg_name (i := 3) sc_Lanes_init.nd rfl (Or.inl rfl)) (pss_one (ps_expr (pe_meth (pv 0) c_Lanes.cl o_Lanes_take (hr.mono (by decide)) (pa_cons (pv 3) pa_nil))))))))), ?_⟩
    obtain ⟨udx, hudx⟩ : ∃ u, H dx = some u := ⟨_, hdx⟩
    have frs : ∀ {X Y : Hp} {vs' : List (Option V)}, X = SlX.slH Y a C dx vs' → ∀ q, q ≠ a → q ≠ dx → X q = Y q := fun {X Y vs'} h q h1 h2 => by rw [h, SlX.slH_ne h1 h2]
    have txs : ∀ {X Y : Hp} {vs0 vs' : List (Option V)}, SlX.Slt Y a C dx vs0 → Y dx ≠ none → (∀ xs, Y dx ≠ some (.tup xs)) → X = SlX.slH Y a C dx vs' → TEx Y X := fun {X Y vs0 vs'} hs hd hd2 h b xs hb => by
      have h1 : b ≠ a := fun z => by
        subst z
        rcases hs with ⟨h1, _⟩ | ⟨h1, _⟩
        · rw [hb] at h1
          cases h1
        · rw [hb] at h1
          unfold SlX.SlO at h1
          cases h1
      have h2 : b ≠ dx := fun z => by
        subst z
        exact hd2 xs hb
      rw [frs h b h1 h2]
      exact hb
    refine q_tupM (c_cons (ev_var rfl H (Ex.refl _) _ fun H1 e1 => c_cons (Evl.el_lst Evl.ea_nil (by decide) H1 (Ex.refl _) _ fun sg H2 hsg e2 h2 => c_nil ⟨sz_of (show 2 ≤ 100000 by decide), fun tp htp => ?_⟩)))
    have e23 := Ex.new (o := .tup [.int (n : Int), .ref sg]) htp
    generalize hH3 : upd H2 tp (.tup [.int (n : Int), .ref sg]) = H3 at e23
    have h3 : H3 tp = some (.tup [.int (n : Int), .ref sg]) := by
      rw [← hH3]
      exact upd_same
    have e03 : Ex H H3 := (e1.trans e2).trans e23
    have hsg0 : H sg = none := fresh_back e1 hsg
    have sga : sg ≠ a := fun z => by
      rw [z, hA] at hsg0
      cases hsg0
    have sgd : sg ≠ dx := fun z => by
      rw [z, hudx] at hsg0
      cases hsg0
    refine ⟨tp, _, rfl, st_of h3, rfl, _, _, rfl, ?_⟩
    refine ev_var (v := .ref a) rfl H3 (Ex.refl _) _ fun H4 e4 => ⟨a, C, dx, pa, [], 0, rfl, .inl ⟨(e03.trans e4) _ _ hA, rfl⟩, c_Lanes.cl, sa, ?_⟩
    generalize hG1 : SlX.slH H4 a C dx (SlX.putS 0 (.int (n : Int)) []) = G1
    have sG1 : SlX.Slt G1 a C dx (SlX.putS 0 (.int (n : Int)) []) := by
      rw [← hG1]
      exact SlX.slH_slt hne
    refine ⟨_, _, rfl, ?_⟩
    refine ev_var (v := .ref a) rfl G1 (Ex.refl _) _ fun H5 e5 => ⟨a, C, dx, ps, _, 3, rfl, slt_ex e5 sG1, c_Lanes.cl, ss, ⟨rfl, ?_⟩⟩
    generalize hG2 : SlX.slH H5 a C dx (SlX.putS 3 (.ref sg) (SlX.putS 0 (.int (n : Int)) [])) = G2
    have sG2 : SlX.Slt G2 a C dx [some (.int (n : Int)), none, none, some (.ref sg)] := by
      rw [← hG2]
      exact SlX.slH_slt hne
    have dxd : ∀ {X : Hp} {vs' : List (Option V)} {Y : Hp}, X = SlX.slH Y a C dx vs' → X dx = some (.xd []) := fun {X vs' Y} h => by
      rw [h]
      unfold SlX.slH
      rw [upd_ne hne, upd_same]
    have fr2 : ∀ q u, q ≠ a → q ≠ dx → H3 q = some u → G2 q = some u := fun q u h1 h2 hq => by
      rw [frs hG2.symm q h1 h2]
      refine e5 _ _ ?_
      rw [frs hG1.symm q h1 h2]
      exact e4 _ _ hq
    have d4 : H4 dx = some udx := (e03.trans e4) _ _ hudx
    have sgG2 : G2 sg = some (.lst []) := fr2 _ _ sga sgd (e23 _ _ h2)
    have ntu : ∀ xs, H dx ≠ some (.tup xs) := fun xs z => by
      rw [hdx] at z
      cases z
    have txG1 : TEx H4 G1 := txs (vs0 := []) (.inl ⟨(e03.trans e4) _ _ hA, rfl⟩) (by rw [d4]; simp) (fun xs z => ntu xs (by rw [d4] at z; rw [hudx]; exact z)) hG1.symm
    have dG1 := dxd hG1.symm
    have txG2 : TEx H4 G2 := (txG1.trans (tex_of e5)).trans (txs (slt_ex e5 sG1) (by rw [e5 _ _ dG1]; simp) (fun xs z => by rw [e5 _ _ dG1] at z; cases z) hG2.symm)
    have dG2 := dxd hG2.symm
    -- lanes
    refine q_asgM (eo_lcRd (n := n) (Ob := fun i H' u => ∃ v, u = .dK [((Sum.inl (i : Int) : Key), v)] ∧ Fz K H' (tN (List.range n)) v) (Evl.ea_cons (ev_var rfl) Evl.ea_nil) (by omega) (fun _ => rfl) (fun i X Y u tx ⟨v, h1, h2⟩ => ⟨v, h1, Fz.mono tx _ _ h2⟩) (fun i X eX hi => ?_) G2 (Ex.refl _) _ fun ln dl X1 hfr1 hnd1 eX1 hln hdl hob1 => ?_)
    · intro X1 eX1 Q2 hQ2 b hb
      refine ev_var (v := .int (i : Int)) rfl _ (Ex.refl _) _ fun X2 eX2 => ed_call (K := K) (sp := spD K 1 rNothing) (d := tN (List.range n)) (ea_v (ev_var rfl) ea_nil) (pr_D ⟨n, rfl, by omega, rfl⟩) X2 (Ex.refl _) _ fun v X3 eX3 fv => ⟨eX3 _ _ (eX2 _ _ upd_same), [((Sum.inl (i : Int) : Key), v)], rfl, by simp, ?_⟩
      have exn : Ex X1 (upd X3 b (.dK (mergeK [] [((Sum.inl (i : Int) : Key), v)]))) := Ex.mut ((Ex.new hb).trans (eX2.trans eX3)) hb
      have tx3 : TEx X3 (upd X3 b (.dK (mergeK [] [((Sum.inl (i : Int) : Key), v)]))) := fun y xs hy => by
        have : y ≠ b := fun z => by
          rw [z, eX3 _ _ (eX2 _ _ upd_same)] at hy
          cases hy
        rw [upd_ne this]
        exact hy
      exact hQ2 b _ _ hb exn upd_same ⟨v, rfl, Fz.mono tx3 _ _ fv⟩
    · have nln : ∀ q ∈ ln :: dl, q ≠ a ∧ q ≠ dx ∧ q ≠ sg := fun q hq => by
        have h0 := hfr1 q hq
        refine ⟨fun z => ?_, fun z => ?_, fun z => ?_⟩
        · rw [z] at h0
          rcases sG2 with ⟨h1, _⟩ | ⟨h1, _⟩ <;> rw [h0] at h1 <;> cases h1
        · rw [z, dG2] at h0
          cases h0
        · rw [z, sgG2] at h0
          cases h0
      refine ev_var (v := .ref a) rfl X1 (Ex.refl _) _ fun X2 eX2 => ⟨a, C, dx, pl, _, 2, rfl, slt_ex (eX1.trans eX2) sG2, c_Lanes.cl, sl, ?_⟩
      generalize hG3 : SlX.slH X2 a C dx (SlX.putS 2 (.ref ln) [some (.int (n : Int)), none, none, some (.ref sg)]) = G3
      have sG3 : SlX.Slt G3 a C dx [some (.int (n : Int)), none, some (.ref ln), some (.ref sg)] := by
        rw [← hG3]
        exact SlX.slH_slt hne
      have fr3 : ∀ q u, q ≠ a → q ≠ dx → X1 q = some u → G3 q = some u := fun q u h1 h2 hq => by
        rw [frs hG3.symm q h1 h2]
        exact eX2 _ _ hq
      have dX2 : X2 dx = some (.xd []) := (eX1.trans eX2) _ _ dG2
      have txG3 : TEx X1 G3 := (tex_of eX2).trans (txs (slt_ex (eX1.trans eX2) sG2) (by rw [dX2]; simp) (fun xs z => by rw [dX2] at z; cases z) hG3.symm)
      have dG3 := dxd hG3.symm
      -- known
      refine q_asgM (eo_lcRd (n := n) (Ob := fun i H' u => u = .dT []) (Evl.ea_cons (ev_var rfl) Evl.ea_nil) (by omega) (fun _ => rfl) (fun i X Y u tx h => h) (fun i X eX hi => ?_) G3 (Ex.refl _) _ fun kn kl X3 hfr3 hnd3 eX3 hkn hkl hob3 => ?_)
      · intro X1 eX1 Q2 hQ2 b hb
        exact hQ2 b _ _ hb (Ex.new hb) upd_same rfl
      · refine ev_var (v := .ref a) rfl X3 (Ex.refl _) _ fun X4 eX4 => ⟨a, C, dx, pk, _, 1, rfl, slt_ex (eX3.trans eX4) sG3, c_Lanes.cl, sk, ?_⟩
        generalize hG4 : SlX.slH X4 a C dx (SlX.putS 1 (.ref kn) [some (.int (n : Int)), none, some (.ref ln), some (.ref sg)]) = G4
        have sG4 : SlX.Slt G4 a C dx [some (.int (n : Int)), some (.ref kn), some (.ref ln), some (.ref sg)] := by
          rw [← hG4]
          exact SlX.slH_slt hne
        have fr4 : ∀ q u, q ≠ a → q ≠ dx → X3 q = some u → G4 q = some u := fun q u h1 h2 hq => by
          rw [frs hG4.symm q h1 h2]
          exact eX4 _ _ hq
        have dX4 : X4 dx = some (.xd []) := (eX3.trans eX4) _ _ dG3
        have txG4 : TEx X3 G4 := (tex_of eX4).trans (txs (slt_ex (eX3.trans eX4) sG3) (by rw [dX4]; simp) (fun xs z => by rw [dX4] at z; cases z) hG4.symm)
        have sgG3 : G3 sg = some (.lst []) := fr3 _ _ sga sgd (eX1 _ _ sgG2)
        have lnG3 : ∀ q u, q ∈ ln :: dl → X1 q = some u → G3 q = some u := fun q u hq h => fr3 q u (nln q hq).1 (nln q hq).2.1 h
        have hasG3 : ∀ q ∈ ln :: dl, ∃ u, G3 q = some u := fun q hq => by
          rcases List.mem_cons.mp hq with z | z
          · exact ⟨_, lnG3 q _ hq (by rw [z]; exact hln)⟩
          · obtain ⟨i, hi⟩ := List.getElem?_of_mem z
            obtain ⟨u, hu, _⟩ := hob1 i q hi
            exact ⟨u, lnG3 q u hq hu⟩
        have nkn : ∀ q ∈ kn :: kl, q ≠ a ∧ q ≠ dx ∧ q ≠ sg ∧ q ∉ ln :: dl := fun q hq => by
          have h0 := hfr3 q hq
          refine ⟨fun z => ?_, fun z => ?_, fun z => ?_, fun z => ?_⟩
          · rw [z] at h0
            rcases sG3 with ⟨h1, _⟩ | ⟨h1, _⟩ <;> rw [h0] at h1 <;> cases h1
          · rw [z, dG3] at h0
            cases h0
          · rw [z, sgG3] at h0
            cases h0
          · obtain ⟨u, hu⟩ := hasG3 q z
            rw [h0] at hu
            cases hu
        let o : LOwn := ⟨dx, ln, kn, sg, dl, kl⟩
        have L0 : LAt K C a o n (Ch.none n) G4 := by
          refine ⟨sG4, ?_, ?_, ?_, ⟨[], ?_, fzl_nil⟩, hdl, fun p q hq => ?_, hkl, fun p q hq => ?_⟩
          · show (a :: dx :: ln :: kn :: sg :: (dl ++ kl)).Nodup
            have n1 := fun q hq => nln q hq
            have n2 := fun q hq => nkn q hq
            obtain ⟨m1, m2⟩ := List.nodup_cons.mp hnd1
            obtain ⟨m3, m4⟩ := List.nodup_cons.mp hnd3
            have q1 := nln ln List.mem_cons_self
            have q2 := nkn kn List.mem_cons_self
            refine List.nodup_cons.mpr ⟨?_, List.nodup_cons.mpr ⟨?_, List.nodup_cons.mpr ⟨?_, List.nodup_cons.mpr ⟨?_, List.nodup_cons.mpr ⟨?_, List.nodup_append.mpr ⟨m2, m4, fun x hx y hy z => (nkn y (List.mem_cons_of_mem _ hy)).2.2.2 (z ▸ List.mem_cons_of_mem _ hx)⟩⟩⟩⟩⟩⟩
            · simp only [List.mem_cons, List.mem_append, not_or]
              exact ⟨hne.symm, q1.1.symm, q2.1.symm, sga.symm, fun z => (nln a (List.mem_cons_of_mem _ z)).1 rfl, fun z => (nkn a (List.mem_cons_of_mem _ z)).1 rfl⟩
            · simp only [List.mem_cons, List.mem_append, not_or]
              exact ⟨q1.2.1.symm, q2.2.1.symm, sgd.symm, fun z => (nln dx (List.mem_cons_of_mem _ z)).2.1 rfl, fun z => (nkn dx (List.mem_cons_of_mem _ z)).2.1 rfl⟩
            · simp only [List.mem_cons, List.mem_append, not_or]
              exact ⟨fun z => q2.2.2.2 (z ▸ List.mem_cons_self), q1.2.2, m1, fun z => (nkn ln (List.mem_cons_of_mem _ z)).2.2.2 List.mem_cons_self⟩
            · simp only [List.mem_cons, List.mem_append, not_or]
              exact ⟨q2.2.2.1, fun z => q2.2.2.2 (List.mem_cons_of_mem _ z), m3⟩
            · simp only [List.mem_append, not_or]
              exact ⟨fun z => (nln sg (List.mem_cons_of_mem _ z)).2.2 rfl, fun z => (nkn sg (List.mem_cons_of_mem _ z)).2.2.1 rfl⟩
          · exact fr4 _ _ (nln ln List.mem_cons_self).1 (nln ln List.mem_cons_self).2.1 (eX3 _ _ (lnG3 _ _ List.mem_cons_self hln))
          · exact fr4 _ _ (nkn kn List.mem_cons_self).1 (nkn kn List.mem_cons_self).2.1 hkn
          · exact fr4 _ _ sga sgd (eX3 _ _ sgG3)
          · obtain ⟨u, hu, v, rfl, fv⟩ := hob1 p q hq
            have hqm := List.mem_cons_of_mem ln (List.mem_of_getElem? hq)
            have hpn : p < n := by
              have : p < dl.length := (List.getElem?_eq_some_iff.mp hq).1
              omega
            refine ⟨_, fr4 _ _ (nln q hqm).1 (nln q hqm).2.1 (eX3 _ _ (lnG3 _ _ hqm hu)), ?_⟩
            rw [none_lane hpn]
            exact ⟨rfl, fzl_cons (Fz.mono ((txG3.trans (tex_of eX3)).trans txG4) _ _ fv) fzl_nil⟩
          · obtain ⟨u, hu, rfl⟩ := hob3 p q hq
            have hqm := List.mem_cons_of_mem kn (List.mem_of_getElem? hq)
            refine ⟨_, fr4 _ _ (nkn q hqm).1 (nkn q hqm).2.1 hu, ?_⟩
            rw [none_kn]
            exact ⟨rfl, List.nodup_nil⟩
        have frAll : ∀ q u, q ≠ a → q ≠ dx → H q = some u → G4 q = some u := fun q u h1 h2 hq => fr4 q u h1 h2 (eX3 _ _ (fr3 q u h1 h2 (eX1 _ _ (fr2 q u h1 h2 (e03 _ _ hq)))))
        have back : ∀ {q : Addr}, q ≠ a → q ≠ dx → (∃ X : Hp, X q = none ∧ ∀ u, H q = some u → X q = some u) → H q = none := fun {q} h1 h2 ⟨X, hx, hu⟩ => by
          cases z : H q with
          | none => rfl
          | some u =>
            rw [hu u z] at hx
            cases hx
        have hfresh : ∀ q ∈ o.all a, q = a ∨ q = dx ∨ H q = none := fun q hq => by
          rcases List.mem_cons.mp hq with z | hq
          · exact .inl z
          · rcases List.mem_cons.mp hq with z | hq
            · exact .inr (.inl z)
            · have inl1 : q ∈ ln :: dl → H q = none := fun z => back (nln q z).1 (nln q z).2.1 ⟨G2, hfr1 q z, fun u hu => fr2 q u (nln q z).1 (nln q z).2.1 (e03 _ _ hu)⟩
              have inl2 : q ∈ kn :: kl → H q = none := fun z => back (nkn q z).1 (nkn q z).2.1 ⟨G3, hfr3 q z, fun u hu => fr3 q u (nkn q z).1 (nkn q z).2.1 (eX1 _ _ (fr2 q u (nkn q z).1 (nkn q z).2.1 (e03 _ _ hu)))⟩
              rcases List.mem_cons.mp hq with z | hq
              · exact .inr (.inr (inl1 (z ▸ List.mem_cons_self)))
              · rcases List.mem_cons.mp hq with z | hq
                · exact .inr (.inr (inl2 (z ▸ List.mem_cons_self)))
                · rcases List.mem_cons.mp hq with z | hq
                  · exact .inr (.inr (z ▸ hsg0))
                  · rcases List.mem_append.mp hq with z | z
                    · exact .inr (.inr (inl1 (List.mem_cons_of_mem _ z)))
                    · exact .inr (.inr (inl2 (List.mem_cons_of_mem _ z)))
        have txH : TEx H G4 := (tex_of (e03.trans e4)).trans ((txG2.trans (tex_of eX1)).trans ((txG3.trans (tex_of eX3)).trans txG4))
        have ft4 : Fz K G4 (tNN us) tv := Fz.mono txH _ _ ft
        have totn : tot n (Ch.none n) = n := by
          unfold tot
          have : (List.range n).map (fun p => ((Ch.none n).lane p).length) = List.replicate n 1 := by
            rw [List.eq_replicate_iff]
            refine ⟨by simp, fun b hb => ?_⟩
            obtain ⟨p, hp, rfl⟩ := List.mem_map.mp hb
            rw [none_lane (List.mem_range.mp hp)]
            rfl
          rw [this, List.sum_replicate_nat]
          omega
        have hW0 : Whole n (Ch.none n) := ⟨none_full n, by rw [totn]; simp [Ch.none]⟩
        -- the turns
        refine s_forTd (ed_var rfl ft4) fun G5 e5' => ⟨fun i σ' H' => (∃ z3 z4, σ' = [some (.ref a), some (.int (n : Int)), some tv, z3, z4]) ∧ TEx G5 H' ∧ ∃ c, LAt K C a o n c H' ∧ OBut (o.all a) G5 H' ∧ Whole n c ∧ ∀ g, Gen n (Sp' c.strong 0) g ↔ Gen n (fun s => s ∈ us.take i) g,
          ⟨⟨_, _, rfl⟩, TEx.refl _, Ch.none n, L0.ex e5', OBut.refl _ _, hW0, fun g => ⟨fun h => Gen.sub (fun s hs => by cases hs.1) h, fun h => Gen.sub (fun s hs => by simp at hs) h⟩⟩, fun i σ' H' h => h.2.1, ?_, ?_⟩
        · rintro i x d σ' H' hd hx ⟨⟨z3, z4, rfl⟩, tx, c, Lc, oB, hWc, hG⟩
          obtain ⟨u, hu, rfl⟩ := map_get hd
          have pu := hus u (List.mem_of_getElem? hu)
          show tDrop _ _ [some (.ref a), some (.int (n : Int)), some tv, some x, z4] H'
          refine s_dropM (c_meth (ev_var rfl) Lc.slt fun H7 e7 => ed_var (K := K) rfl (fz_ex e7 hx) H7 (Ex.refl _) _ fun v8 H8 e8 f8 => c_nil ⟨a, o, n, c, v8, u, rfl, Lc.ex (e7.trans e8), hWc, hn, f8, pu, fun c' H9 g1 g2 g3 g4 => ?_⟩)
          have oB9 := (oB.ex (e7.trans e8)).trans g2
          refine ⟨⟨_, _, rfl⟩, (L0.ex e5').tex oB9, c', g1, oB9, g3, fun g => ?_⟩
          have hPu : ∀ s, s ∈ us.take (i + 1) → IsP n s := fun s hs => hus s (List.mem_of_mem_take hs)
          have hPc : ∀ s, (s ∈ c.strong ∨ s = u) → IsP n s := fun s hs => by
            rcases hs with z | z
            · exact hWc.full.ok.isP s z
            · exact z ▸ pu
          rw [g4 g, take_get hu]
          rw [take_get hu] at hPu
          constructor
          · intro h
            refine Gen.mono hPu (fun s hs => ?_) h
            rcases hs with z | z
            · exact Gen.sub (fun s hs => List.mem_append_left _ hs) ((hG s).mp (Gen.of (spr_isP hWc.full.ok.isP) ⟨z, fun i hi => absurd hi (Nat.not_lt_zero _)⟩))
            · exact Gen.of hPu (z ▸ List.mem_append_right _ (List.mem_singleton.mpr rfl))
          · intro h
            refine Gen.mono hPc (fun s hs => ?_) h
            rcases List.mem_append.mp hs with z | z
            · have h1 := (hG s).mpr (Gen.of (fun s hs => hus s (List.mem_of_mem_take hs)) z)
              exact Gen.sub (fun s hs => .inl hs.1) h1
            · exact Gen.of hPc (.inr (List.mem_singleton.mp z))
        · rintro σ' H' ⟨⟨z3, z4, rfl⟩, tx, c, Lc, oB, hWc, hG⟩
          rw [List.length_map, List.take_of_length_le (Nat.le_refl _)] at hG
          refine k o c H' Lc rfl (fun q u h1 h2 hq => ?_) hfresh hWc hG
          refine oB q u (fun hm => ?_) (e5' _ _ (frAll q u h1 h2 hq))
          rcases hfresh q hm with z | z | z
          · exact h1 z
          · exact h2 z
          · rw [hq] at z
            cases z
end
end WT
/-! What keeps a picture: a group, told by its least orders. -/
namespace WT
open PySem PySem.Spec PyProof.Rows L2 Evl
def Aut (k : Nat) (M : List (List Nat)) (g : List Nat) : Prop := IsP k g ∧ movedN k M g = M
section
variable {k : Nat} {M : List (List Nat)}
theorem moved_thn {p q : List Nat} (hp : IsP k p) (hq : IsP k q) : movedN k M (thn p q) = movedN k (movedN k M p) q := by
  have hl := isP_len hp
  refine moved_of (thn_isP hp hq) moved_sq fun i j a b ha hb => ?_
  have hi : i < k := by
    have := (List.getElem?_eq_some_iff.mp ha).1
    rw [thn_len] at this
    omega
  have hj : j < k := by
    have := (List.getElem?_eq_some_iff.mp hb).1
    rw [thn_len] at this
    omega
  have e1 : a = ap q (ap p i) := by rw [← ap_of ha, ap_thn (by omega)]
  have e2 : b = ap q (ap p j) := by rw [← ap_of hb, ap_thn (by omega)]
  have gq : ∀ x, x < k → q[x]? = some (ap q x) := fun x hx => ap_get (by rw [isP_len hq]; exact hx)
  have gp : ∀ x, x < k → p[x]? = some (ap p x) := fun x hx => ap_get (by omega)
  rw [e1, e2, moved_at hq (gq _ (ap_lt hp hi)) (gq _ (ap_lt hp hj)), moved_at hp (gp i hi) (gp j hj)]
theorem moved_one (hM : Sq k M) : movedN k M (List.range k) = M := moved_of (one_isP k) hM fun i j a b ha hb => by
  have hi : i < k := by
    have := (List.getElem?_eq_some_iff.mp ha).1
    rw [List.length_range] at this
    exact this
  have hj : j < k := by
    have := (List.getElem?_eq_some_iff.mp hb).1
    rw [List.length_range] at this
    exact this
  rw [List.getElem?_range hi] at ha
  rw [List.getElem?_range hj] at hb
  rw [← Option.some.inj ha, ← Option.some.inj hb]
theorem aut_one (hM : Sq k M) : Aut k M (List.range k) := ⟨one_isP k, moved_one hM⟩
theorem aut_thn {p q : List Nat} (hp : Aut k M p) (hq : Aut k M q) : Aut k M (thn p q) := ⟨thn_isP hp.1 hq.1, by rw [moved_thn hp.1 hq.1, hp.2, hq.2]⟩
theorem aut_und (hM : Sq k M) {p : List Nat} (hp : Aut k M p) : Aut k M (invN k p) := ⟨und_isP hp.1, by
  have h := moved_thn (M := M) hp.1 (und_isP hp.1)
  rw [thn_und hp.1, moved_one hM, hp.2] at h
  exact h.symm⟩
theorem aut_gen (hM : Sq k M) {S : List Nat → Prop} (h : ∀ s, S s → Aut k M s) {g : List Nat} (hg : Gen k S g) : Aut k M g := by
  induction hg with
  | one => exact aut_one hM
  | mul _ hs ih => exact aut_thn ih (h _ hs)
  | div _ hs ih => exact aut_thn ih (aut_und hM (h _ hs))
/-- each least order tells what keeps the picture -/
theorem aut_order (hM : Sq k M) {f o : List Nat} (hf : f ∈ (laps k M k).2) (ho : o ∈ (laps k M k).2) : Aut k M (zipPos k f o) := by
  obtain ⟨l1, l2⟩ := laps_ok k M k (Nat.le_refl _)
  obtain ⟨O1, C1⟩ := l2 f hf
  obtain ⟨O2, C2⟩ := l2 o ho
  exact ⟨zip_perm (ord_perm O1) (ord_perm O2), zip_moves hM O1 O2 C1 C2⟩
theorem zip_map {f q : List Nat} (hf : f.Perm (List.range k)) (hq : IsP k q) : zipPos k f (f.map fun x => q.getD x 0) = q := by
  refine (tab_of (f := fun x => (f.map fun x => q.getD x 0).getD (f.idxOf x) 0) (isP_len hq) fun x hx => ?_).symm
  obtain ⟨h1, h2⟩ := idx_lt hf hx
  rw [ap_get (by rw [isP_len hq]; exact hx)]
  congr 1
  rw [List.getD_eq_getElem?_getD, List.getElem?_map, h2]
  rfl
/-- and all that keeps it is told so -/
theorem order_aut {f q : List Nat} (hf : f ∈ (laps k M k).2) (hq : Aut k M q) : ∃ o ∈ (laps k M k).2, q = zipPos k f o := by
  obtain ⟨l1, l2⟩ := laps_ok k M k (Nat.le_refl _)
  have h := (laps_moved (M := M) hq.1 k (Nat.le_refl _)).2 (f.map fun x => q.getD x 0)
  rw [hq.2] at h
  exact ⟨_, h.mpr ⟨f, hf, rfl⟩, (zip_map (ord_perm (l2 f hf).1) hq.1).symm⟩
theorem zip_inj {f o o' : List Nat} (hf : f.Perm (List.range k)) (ho : o.length = k) (ho' : o'.length = k) (e : zipPos k f o = zipPos k f o') : o = o' := by
  refine ext_ap (n := k) ho ho' fun i hi => ?_
  have hl := perm_len hf
  have hfi := ap_get (u := f) (i := i) (by omega)
  have hx := perm_lt hf hfi
  have h1 := congrArg (fun l : List Nat => l[ap f i]?) e
  simp only [zipPos, tab_get hx] at h1
  have hid := idx_of_get (perm_nd hf) hfi
  rw [hid] at h1
  exact Option.some.inj h1
theorem laps_nd (k : Nat) (M : List (List Nat)) : ∀ t, t ≤ k → (laps k M t).2.Nodup
  | 0, _ => by simp [laps]
  | t + 1, ht => by
    have ih := laps_nd k M t (by omega)
    have hne := cand_ne (M := M) (show t < k by omega)
    obtain ⟨m, h1, h2, h3⟩ := (scan_least (cand k M (laps k M t).2)).2 hne
    show (scan (cand k M (laps k M t).2)).2.Nodup
    rw [h3]
    have hc : ((cand k M (laps k M t).2).map Prod.snd).Nodup := by
      have : ∀ os : List (List Nat), os.Nodup → ((cand k M os).map Prod.snd).Nodup := fun os => by
        induction os with
        | nil =>
          intro _
          simp [cand]
        | cons o os ihh =>
          intro nd
          obtain ⟨n1, n2⟩ := List.nodup_cons.mp nd
          have e : cand k M (o :: os) = cand1 k M o ++ cand k M os := by simp [cand]
          rw [e, List.map_append, List.nodup_append]
          refine ⟨?_, ihh n2, fun a ha b hb z => ?_⟩
          · have e2 : (cand1 k M o).map Prod.snd = (rest k o).map fun p => o ++ [p] := by
              unfold cand1
              rw [List.map_map]
              rfl
            rw [e2]
            have hr : (rest k o).Nodup := List.Nodup.sublist List.filter_sublist List.nodup_range
            exact List.Pairwise.map (fun p => o ++ [p]) (fun a b hab z => hab (by simpa using z)) hr
          · obtain ⟨c, hc, rfl⟩ := List.mem_map.mp ha
            obtain ⟨c', hc', hb'⟩ := List.mem_map.mp hb
            unfold cand1 at hc
            obtain ⟨p, _, rfl⟩ := List.mem_map.mp hc
            obtain ⟨o', ho', p', _, _, rfl⟩ := mem_cand.mp hc'
            rw [← hb'] at z
            have := (List.append_inj' z rfl).1
            exact n1 (this ▸ ho')
      exact this _ ih
    exact List.Nodup.sublist (List.Sublist.map _ List.filter_sublist) hc
/-- as many least orders as what keeps the picture -/
theorem orders_count {gs : List (List Nat)} (hM : Sq k M) (nd : gs.Nodup) (hg : ∀ g, g ∈ gs ↔ Aut k M g) : (laps k M k).2.length = gs.length := by
  obtain ⟨l1, l2⟩ := laps_ok k M k (Nat.le_refl _)
  obtain ⟨f, hf⟩ := List.exists_mem_of_ne_nil _ l1
  have h1 : ((laps k M k).2.map (zipPos k f)).Nodup := by
    refine List.pairwise_iff_getElem.mpr fun i j hi hj hij z => ?_
    rw [List.length_map] at hi hj
    simp only [List.getElem_map] at z
    have e := zip_inj (ord_perm (l2 f hf).1) (l2 _ (List.getElem_mem hi)).1.len (l2 _ (List.getElem_mem hj)).1.len z
    exact List.pairwise_iff_getElem.mp (laps_nd k M k (Nat.le_refl _)) i j hi hj hij e
  have hp : ((laps k M k).2.map (zipPos k f)).Perm gs := (List.perm_ext_iff_of_nodup h1 nd).mpr fun g => by
    rw [hg]
    constructor
    · intro h
      obtain ⟨o, ho, rfl⟩ := List.mem_map.mp h
      exact aut_order hM hf ho
    · intro h
      obtain ⟨o, ho, rfl⟩ := order_aut hf h
      exact List.mem_map.mpr ⟨o, ho, rfl⟩
  rw [← hp.length_eq, List.length_map]
end
end WT
/-! All orders, each once; what keeps a picture, listed. -/
namespace WT
open PySem PySem.Spec PyProof.Rows L2 Evl
theorem every_nd {k : Nat} : ∀ t, (everyN k t).Nodup
  | 0 => by simp [everyN]
  | t + 1 => by
    have ih := every_nd (k := k) t
    show ((everyN k t).flatMap fun o => (rest k o).map fun x => o ++ [x]).Nodup
    have : ∀ os : List (List Nat), os.Nodup → (os.flatMap fun o => (rest k o).map fun x => o ++ [x]).Nodup := fun os => by
      induction os with
      | nil =>
        intro _
        simp
      | cons o os ihh =>
        intro nd
        obtain ⟨n1, n2⟩ := List.nodup_cons.mp nd
        rw [List.flatMap_cons, List.nodup_append]
        refine ⟨?_, ihh n2, fun a ha b hb z => ?_⟩
        · have hr : (rest k o).Nodup := List.Nodup.sublist List.filter_sublist List.nodup_range
          exact List.Pairwise.map (fun p => o ++ [p]) (fun a b hab z => hab (by simpa using z)) hr
        · obtain ⟨p, _, rfl⟩ := List.mem_map.mp ha
          obtain ⟨o', ho', hb'⟩ := List.mem_flatMap.mp hb
          obtain ⟨p', _, rfl⟩ := List.mem_map.mp hb'
          have := (List.append_inj' z rfl).1
          exact n1 (this ▸ ho')
    exact this _ ih
theorem every_isP {k : Nat} {g : List Nat} : g ∈ everyN k k ↔ IsP k g := by
  rw [mem_every]
  exact ⟨ord_perm, fun h => ⟨perm_len h, perm_nd h, fun x hx => List.mem_range.mp (h.subset hx)⟩⟩
/-- what keeps the picture, in the sequence of all orders -/
def keptN (k : Nat) (M : List (List Nat)) : List (List Nat) := (everyN k k).filter fun q => decide (movedN k M q = M)
theorem kept_nd (k : Nat) (M : List (List Nat)) : (keptN k M).Nodup := List.Nodup.sublist List.filter_sublist (every_nd k)
theorem mem_kept {k : Nat} {M : List (List Nat)} {g : List Nat} : g ∈ keptN k M ↔ Aut k M g := by
  unfold keptN
  rw [List.mem_filter, every_isP, decide_eq_true_eq]
  exact Iff.rfl
end WT
/-! Frames, read. -/
namespace WT
open PySem PySem.Spec PyProof.Rows L2 Evl
abbrev s_look_at_position : Stmt := top 9
abbrev N_look_at_position : List Str := ["position", "is_fit"]
theorem sc_look_at_position : FnScope N_look_at_position ["position"] (defScope s_look_at_position) := ⟨rfl, rfl, rfl, by decide +kernel, rfl, by decide +kernel, by decide +kernel⟩
def rLookPos (as : List Ag) (d : PyData) : Prop := ∃ (k : Nat) (u : List Nat), as = [.d (tN u)] ∧ 1 ≤ k ∧ k ≤ 5 ∧ IsP k u ∧ d = .none
section
variable {P : Program} {w : World} {K : PySem.W.Frag} {mg : Str → Option Value} {base : Heap}
theorem ok_look_at_position (B : Bt mg) (C : Cs mg) (o_is_position_of : Okd P w K mg base "is_position_of" ["many", "value"] s_is_position_of 2 (spD K 2 rIsPos)) (d : DefIn K mg "look_at_position" ["position"] s_look_at_position) : Okd P w K mg base "look_at_position" ["position"] s_look_at_position 3 (spD K 1 rLookPos) := by
  refine Okd.mk d sc_look_at_position (fun vs H Q E h => spD_len h) (fun f cdv A outer s H vs Q E hr h => ?_)
  obtain ⟨as, d, _, hv, ⟨m, u, rfl, hm1, hm, hu, rfl⟩, k⟩ := h
  obtain ⟨y, rfl, hy⟩ := agl1 hv
  replace hy := agd hy
  obtain ⟨_, c_most_wide⟩ := C.most_wide
  have hl := isP_len hu
  refine ⟨_, (pss_cons (ps_set (i := 1) sc_look_at_position.nd rfl (Or.inl rfl) (pe_and (pe_callB call_isi (by rfl) B.isinstance boot_isinstance (pa_cons (pv 0) (pa_cons (pe_bltn (v := V.ty "tuple") (u := Value.type "tuple") (by rfl) B.tuple boot_tuple rfl) pa_nil))) (pe_one (pe_chain op_le op_le pe_int (pe_callB call_len_seq (by rfl) B.len boot_len (pa_cons (pv 0) pa_nil)) (pe_glob (v := .int 32) rfl c_most_wide ⟨_, rfl⟩)))))
      (pss_one (ps_if (PW.pt (pw_or (pt_not (pt_val (pv 1))) (pw_or1 (pt_not (pt_val (pe_fn o_is_position_of (hr.mono (by decide)) (pa_cons (pe_callB call_len_seq (by rfl) B.len boot_len (pa_cons (pv 0) pa_nil)) (pa_cons (pv 0) pa_nil)))))))) (pss_one ps_never) pss_nil))), ?_⟩
  have hlen : ∀ {σ : L2.St} {H1 : Hp}, Ex H H1 → σ[0]? = some (some y) → Ev (tCB (rLenS K) (tCons (tVar 0) tNil)) σ H1 (.int (m : Int)) := fun e h0 => ev_is (ev_lenT (ed_var h0 (fz_ex e hy))) (by rw [List.length_map, hl])
  refine q_asg (v := .bl true) (ev_is (ev_andV (ev_isiT (ed_var rfl hy) rfl) fun _ => ev_chain ev_c (hlen (Ex.refl _) rfl) ev_c) ?_) fun H1 e1 => ?_
  · rw [decide_eq_true (show (1 : Int) ≤ (m : Int) by omega), decide_eq_true (show (m : Int) ≤ 32 by omega)]
    rfl
  · exact s_when (b := false) (et_is (et_or (a := false) (et_not (a := true) (et_test (ev_var rfl))) fun _ => et_not (a := true) (et_test (ev_bool (ed_call (ea_v (hlen e1 rfl) (ea_d (ed_var rfl (fz_ex e1 hy)) ea_nil)) (pr_D ⟨m, u, rfl, hm, hu, rfl⟩))))) rfl) (fun z => nomatch z) fun _ H2 e2 => k _ H2 (e1.trans e2) fz_non
end
abbrev s_moved : Stmt := top 21
abbrev N_moved : List Str := ["picture", "position"]
theorem sc_moved : FnScope N_moved ["picture", "position"] (defScope s_moved) := ⟨rfl, rfl, rfl, by decide +kernel, rfl, by decide +kernel, by decide +kernel⟩
abbrev s_keeps : Stmt := top 22
abbrev N_keeps : List Str := ["picture", "position"]
theorem sc_keeps : FnScope N_keeps ["picture", "position"] (defScope s_keeps) := ⟨rfl, rfl, rfl, by decide +kernel, rfl, by decide +kernel, by decide +kernel⟩
def rMovedP (as : List Ag) (d : PyData) : Prop := ∃ (k : Nat) (M : List (List Nat)) (p : List Nat), as = [.d (tNN M), .d (tN p)] ∧ Pic k M ∧ IsP k p ∧ d = tNN (movedN k M p)
def rKeeps (as : List Ag) (d : PyData) : Prop := ∃ (k : Nat) (M : List (List Nat)) (p : List Nat), as = [.d (tNN M), .d (tN p)] ∧ Pic k M ∧ IsP k p ∧ d = .bool (decide (movedN k M p = M))
theorem eqv_NN (M N : List (List Nat)) : PyData.eqv (tNN M) (tNN N) = decide (M = N) := by
  rw [Bool.eq_iff_iff, eqv_iff _ _ (tNN_plain _).1 (tNN_plain _).1, decide_eq_true_eq]
  exact ⟨fun h => tNN_inj h, fun h => by rw [h]⟩
section
variable {P : Program} {w : World} {K : PySem.W.Frag} {mg : Str → Option Value} {base : Heap}
theorem ok_moved (B : Bt mg) (o_look_at_picture : Okd P w K mg base "look_at_picture" ["picture"] s_look_at_picture 3 (spD K 1 rLook)) (o_look_at_position : Okd P w K mg base "look_at_position" ["position"] s_look_at_position 3 (spD K 1 rLookPos)) (o_told_moved : Okd P w K mg base "told_moved" ["picture", "position"] s_told_moved 1 (spD K 2 rMoved))
    (d : DefIn K mg "moved" ["picture", "position"] s_moved) : Okd P w K mg base "moved" ["picture", "position"] s_moved 4 (spD K 2 rMovedP) := by
  refine Okd.mk d sc_moved (fun vs H Q E h => spD_len h) (fun f cdv A outer s H vs Q E hr h => ?_)
  obtain ⟨as, d, _, hv, ⟨m, M, p, rfl, hM, hp, rfl⟩, k⟩ := h
  obtain ⟨y, z, rfl, hy, hz⟩ := agl2 hv
  replace hy := agd hy
  replace hz := agd hz
  refine ⟨_, (pss_cons (ps_expr (pe_fn o_look_at_picture (hr.mono (by decide)) (pa_cons (pv 0) pa_nil)))
      (pss_cons (ps_expr (pe_fn o_look_at_position (hr.mono (by decide)) (pa_cons (pv 1) pa_nil)))
      (pss_cons (ps_if (pt_cmpR op_ne (pe_callB call_len_seq (by rfl) B.len boot_len (pa_cons (pv 1) pa_nil)) (pe_callB call_len_seq (by rfl) B.len boot_len (pa_cons (pv 0) pa_nil)) (nomark _)) (pss_one ps_never) pss_nil)
      (pss_one (ps_ret (pe_fn o_told_moved (hr.mono (by decide)) (pa_cons (pv 0) (pa_cons (pv 1) pa_nil)))))))), ?_⟩
  refine q_dropD (ed_call (ea_d (ed_var rfl hy) ea_nil) (pr_D ⟨m, M, rfl, hM, rfl⟩)) fun H1 e1 => ?_
  refine q_dropD (ed_call (ea_d (ed_var rfl (fz_ex e1 hz)) ea_nil) (pr_D ⟨m, p, rfl, hM.pos, hM.le, hp, rfl⟩)) fun H2 e2 => ?_
  have e02 := e1.trans e2
  refine q_when (b := false) (et_is (et_test (ev_op (ev_lenT (ed_var rfl (fz_ex e02 hz))) (ev_lenT (ed_var rfl (fz_ex e02 hy))) (rv_ne rfl))) ?_) (fun z => nomatch z) fun _ H3 e3 => ?_
  · simp [hM.len, isP_len hp]
  · exact s_retD (ed_call (ea_d (ed_var rfl (fz_ex (e02.trans e3) hy)) (ea_d (ed_var rfl (fz_ex (e02.trans e3) hz)) ea_nil)) (pr_D ⟨m, M, p, rfl, hM.sq, hM.le, hp, rfl⟩)) fun v H4 e4 f => k v H4 ((e02.trans e3).trans e4) f
theorem ok_keeps (B : Bt mg) (o_moved : Okd P w K mg base "moved" ["picture", "position"] s_moved 4 (spD K 2 rMovedP)) (d : DefIn K mg "keeps" ["picture", "position"] s_keeps) : Okd P w K mg base "keeps" ["picture", "position"] s_keeps 5 (spD K 2 rKeeps) := by
  refine Okd.mk d sc_keeps (fun vs H Q E h => spD_len h) (fun f cdv A outer s H vs Q E hr h => ?_)
  obtain ⟨as, d, _, hv, ⟨m, M, p, rfl, hM, hp, rfl⟩, k⟩ := h
  obtain ⟨y, z, rfl, hy, hz⟩ := agl2 hv
  replace hy := agd hy
  replace hz := agd hz
  refine ⟨_, (pss_one (ps_ret (pe_cmpR (op_eqD (room64 hr)) (pe_fn o_moved (hr.mono (by decide)) (pa_cons (pv 0) (pa_cons (pv 1) pa_nil))) (pv 0) (nomark _)))), ?_⟩
  refine s_ret (ev_eqD (ed_call (ea_d (ed_var rfl hy) (ea_d (ed_var rfl hz) ea_nil)) (pr_D ⟨m, M, p, rfl, hM, hp, rfl⟩)) (ed_var rfl hy) (Plain.of (tNN_plain _)) (Plain.of (tNN_plain _))) fun H1 e1 => k _ H1 e1 ?_
  rw [eqv_NN]
  exact fz_bl
end
abbrev s_told_frame : Stmt := top 27
abbrev N_told_frame : List Str := ["picture", "code", "orders", "first", "lanes", "found", "order", "position", "one", "other"]
theorem sc_told_frame : FnScope N_told_frame ["picture"] (defScope s_told_frame) := ⟨rfl, rfl, rfl, by decide +kernel, rfl, by decide +kernel, by decide +kernel⟩
abbrev s_frame : Stmt := top 28
abbrev N_frame : List Str := ["picture"]
theorem sc_frame : FnScope N_frame ["picture"] (defScope s_frame) := ⟨rfl, rfl, rfl, by decide +kernel, rfl, by decide +kernel, by decide +kernel⟩
/-- how many keep the picture, and some that come to them all -/
structure FrameOk (k : Nat) (M : List (List Nat)) (us : List (List Nat)) : Prop where
  aut : ∀ u ∈ us, Aut k M u
  gen : ∀ g, Gen k (fun s => s ∈ us) g ↔ Aut k M g
def frD (k : Nat) (M us : List (List Nat)) : PyData := .tuple [.int (((laps k M k).2.length : Nat) : Int), tNN us]
def spFrame (K : PySem.W.Frag) : Sp := fun vs H Q _ => ∃ (k : Nat) (M : List (List Nat)) (y : V), vs = [y] ∧ Pic k M ∧ Fz K H (tNN M) y ∧ ∀ us v H', Ex H H' → FrameOk k M us → us.length ≤ (laps k M k).2.length → Fz K H' (frD k M us) v → Q v H'
theorem c_mkL {K : PySem.W.Frag} {C : Addr} {σ : L2.St} {H : Hp} {tr : TA} {Q : VK} {E : XK} {n : Nat} {us : List (List Nat)} (hn1 : 1 ≤ n) (hn : n ≤ 60) (hus : ∀ u ∈ us, IsP n u) (h : Ea K tr σ H [.v (.int (n : Int)), .d (tNN us)])
    (k : ∀ a o c H', LAt K C a o n c H' → Ex H H' → (∀ q ∈ o.all a, H q = none) → Whole n c → (∀ g, Gen n (Sp' c.strong 0) g ↔ Gen n (fun s => s ∈ us) g) → Q (.ref a) H') : StX.tMakeR C (spInitL K C) E tr σ H Q := h H (Ex.refl H) _ fun vs H1 e1 hv => by
  obtain ⟨_, tv, rfl, rfl, ft⟩ := agl2 hv
  intro x dx hx hdx hne
  have exn : Ex H1 (upd (upd H1 dx (.own x)) x (.ins C dx [])) := (Ex.new hdx).trans (Ex.new (by rw [upd_ne hne.symm]; exact hx))
  refine ⟨x, dx, n, tv, us, rfl, upd_same, hne, hn1, hn, fz_ex exn (agd ft), hus, by rw [upd_ne hne, upd_same], fun o c H' L ho fr hfr hW hG => ⟨rfl, k x o c H' L ?_ ?_ hW hG⟩⟩
  · intro q u hq
    have hq1 := e1 _ _ hq
    have n1 : q ≠ x := fun z => by
      rw [z, hx] at hq1
      cases hq1
    have n2 : q ≠ dx := fun z => by
      rw [z, hdx] at hq1
      cases hq1
    exact fr q u n1 n2 (exn _ _ hq1)
  · intro q hq
    refine fresh_back e1 ?_
    rcases hfr q hq with z | z | z
    · rw [z]
      exact hx
    · rw [z]
      exact hdx
    · exact fresh_back exn z
section
variable {P : Program} {w : World} {K : PySem.W.Frag} {mg : Str → Option Value} {base : Heap} {C : Addr}
theorem ok_told_frame (B : Bt mg) (c_Lanes : LCls K C) (o_least_orders : Okd P w K mg base "least_orders" ["picture"] s_least_orders 2 (spOrders K)) (o_Lanes : Okc P w K mg base "Lanes" 6 C (spInitL K C)) (o_Lanes_has : Okm P w K mg base C "has" 3 (spHas K C)) (o_Lanes_take : Okm P w K mg base C "take" 5 (spTakeL K C))
    (d : DefIn K mg "told_frame" ["picture"] s_told_frame) : Okd P w K mg base "told_frame" ["picture"] s_told_frame 8 (spFrame K) := by
  refine Okd.mk d sc_told_frame (fun vs H Q E h => ?_) (fun f cdv A outer s H vs Q E hr h => ?_)
  · obtain ⟨k, M, y, rfl, _⟩ := h
    rfl
  · obtain ⟨m, M, y, rfl, hM, hy, k⟩ := h
    have hm := hM.le
    have hm1 := hM.pos
    refine ⟨_, (pss_cons (ps_asg (pe_fn o_least_orders (hr.mono (by decide)) (pa_cons (pv 0) pa_nil)) (pg_tup (by rfl) (pgs_cons (pg_name (i := 1) sc_told_frame.nd rfl (Or.inl rfl)) (pgs_cons (pg_name (i := 2) sc_told_frame.nd rfl (Or.inl rfl)) pgs_nil))))
      (pss_cons (ps_par3 (i := 3) (j := 4) (l := 5) (by rfl) sc_told_frame.nd rfl rfl rfl (by decide) (by decide) (by decide) rfl rfl rfl (pa_cons (pe_ix ix_list (pv 2) pe_int (fun _ _ => rfl)) (pa_cons (pe_mkC o_Lanes (hr.mono (by decide)) (pa_cons (pe_callB call_len_seq (by rfl) B.len boot_len (pa_cons (pv 0) pa_nil)) (pa_cons (pe_tup pa_nil) pa_nil))) (pa_cons (pe_lst pa_nil) pa_nil))) (by rfl))
      (pss_cons (ps_for PassesOwn.never rfl (pi_list (pv 2)) (pg_name (i := 6) sc_told_frame.nd rfl (Or.inl rfl)) (pss_cons (ps_set (i := 7) sc_told_frame.nd rfl (Or.inl rfl) (pe_op op_rep (pe_lst (pa_cons pe_int pa_nil)) (pe_callB call_len_seq (by rfl) B.len boot_len (pa_cons (pv 0) pa_nil))))
        (pss_cons (ps_for PassesOwn.never rfl (RZ.pi_zipA (by rfl) B.zip (pa_cons (pv 3) (pa_cons (pv 6) pa_nil))) (pg_tup (by rfl) (pgs_cons (pg_name (i := 8) sc_told_frame.nd rfl (Or.inl rfl)) (pgs_cons (pg_name (i := 9) sc_told_frame.nd rfl (Or.inl rfl)) pgs_nil))) (pss_one (ps_asg (pv 9) (pg_sub (pv 7) (pv 8) set_list))))
        (pss_one (ps_if (pt_not (pt_val (pe_meth (pv 4) c_Lanes.cl o_Lanes_has (hr.mono (by decide)) (pa_cons (pe_callTy call_tuple_of (by rfl) B.tuple boot_tuple (pa_cons (pv 7) pa_nil)) pa_nil)))) (pss_cons (ps_expr (pe_meth (pv 4) c_Lanes.cl o_Lanes_take (hr.mono (by decide)) (pa_cons (pe_callTy call_tuple_of (by rfl) B.tuple boot_tuple (pa_cons (pv 7) pa_nil)) pa_nil)))
          (pss_one (ps_expr (pe_bm PySem.F.plainAttrs_list PySem.F.slot_list_append PySem.F.type_list_append mt_append (pv 5) (pa_cons (pe_callTy call_tuple_of (by rfl) B.tuple boot_tuple (pa_cons (pv 7) pa_nil)) pa_nil))))) pss_nil)))))
      (pss_one (ps_ret (pe_tup (pa_cons (pe_callB call_len_seq (by rfl) B.len boot_len (pa_cons (pv 2) pa_nil)) (pa_cons (pe_callTy call_tuple_of (by rfl) B.tuple boot_tuple (pa_cons (pv 5) pa_nil)) pa_nil)))))))), ?_⟩
    refine q_asgM (c_call (Evl.ea_cons (ev_var rfl) Evl.ea_nil H (Ex.refl _) _ fun H1 e1 => ⟨m, M, y, rfl, hM.sq, hm, fz_ex e1 hy, fun t vc po xs H2 e2 ht fc hpo fx => g2_pair ht ?_⟩))
    have e02 := e1.trans e2
    obtain ⟨fo, os, hos, _, O, Co⟩ := orders_take (k := m) (M := M)
    obtain ⟨l1, l2⟩ := laps_ok m M m (Nat.le_refl _)
    have hfo : fo ∈ (laps m M m).2 := by
      rw [hos]
      exact List.mem_cons_self
    have hsz := laps_len hm M m
    have h5 := pow5 hm
    have hxl := fzl_len fx
    rw [List.length_map] at hxl
    have hlen : ∀ {σ : L2.St} {H1 : Hp}, Ex H H1 → σ[0]? = some (some y) → Ev (tCB (rLenS K) (tCons (tVar 0) tNil)) σ H1 (.int (m : Int)) := fun e h0 => ev_is (ev_lenT (ed_var h0 (fz_ex e hy))) (by rw [List.length_map, hM.len])
    refine q_par3M (c_cons (ed_ixL (K := K) (i := 0) (d := tN fo) (ev_var rfl) (sq_of hpo) fx ev_c (by rw [hos]; rfl) H2 (Ex.refl _) _ fun vf H3 e3 ff => c_cons (c_mkL (us := []) hm1 (by omega) (fun u hu => by cases hu) (ea_v (hlen (e02.trans e3) rfl) (ea_d (ed_tup (ds := []) ea_nil (by decide)) ea_nil)) fun a o c0 H4 L0 e4 hfr hW0 hG0 => c_cons (Evl.el_lst Evl.ea_nil (by decide) H4 (Ex.refl _) _ fun fl H5 hfl e5 h5' => c_nil ⟨_, _, _, rfl, ?_⟩))))
    have e03 := e02.trans e3
    have hfl3 : H3 fl = none := fresh_back e4 hfl
    have nfl : fl ∉ o.all a := L0.fresh hfl
    have hfoP := ord_perm O
    let us0 : List Nat → Prop := fun _ => False
    refine q_forL (a := po) (xs := xs) (ev_var rfl) (sq_of (e5 _ _ (e4 _ _ (e3 _ _ hpo)))) (fun i σ' H' => ∃ (c : Ch) (us : List (List Nat)) (fs : List V) (z6 z7 z8 z9 : Option V), σ' = [some y, some vc, some (.ref po), some vf, some (.ref a), some (.ref fl), z6, z7, z8, z9] ∧ LAt K C a o m c H' ∧ Whole m c ∧
      (∀ g, Gen m (Sp' c.strong 0) g ↔ Gen m (fun s => s ∈ us) g) ∧ (∀ u ∈ us, Aut m M u) ∧ us.length ≤ i ∧ (∀ j o', j < i → (laps m M m).2[j]? = some o' → Gen m (fun s => s ∈ us) (zipPos m fo o')) ∧ H' fl = some (.lst fs) ∧ FzL K H' (us.map tN) fs ∧ Ex H3 H')
      (fun H6 e6 => ⟨c0, [], [], none, none, none, none, rfl, L0.ex (e5.trans e6), hW0, hG0, fun u hu => (by cases hu), Nat.le_refl _, fun j o' hj => absurd hj (Nat.not_lt_zero _), e6 _ _ h5', fzl_nil, e4.trans (e5.trans e6)⟩) (fun i σ' H' _ h => ?_) (fun i x σ' H' hx h => ?_) (fun σ' H' h => ?_)
    · obtain ⟨_, _, _, _, _, _, _, _, _, _, _, _, _, _, _, _, e⟩ := h
      exact sq_of (e _ _ (e3 _ _ hpo))
    · obtain ⟨c, us, fs, z6, z7, z8, z9, rfl, L, hW, hG, hus, husl, hdone, hfs, ffs, eX⟩ := h
      have fx' := fzl_ex (e3.trans eX) fx
      obtain ⟨dd, hd, fo'⟩ := fzl_getV fx' hx
      obtain ⟨oo, hoo, rfl⟩ := map_get hd
      have hoom := List.mem_of_getElem? hoo
      obtain ⟨O2, C2⟩ := l2 oo hoom
      have hil := (List.getElem?_eq_some_iff.mp hoo).1
      show tSeq _ _ _ [some y, some vc, some (.ref po), some vf, some (.ref a), some (.ref fl), some x, z7, z8, z9] H'
      have vf' : Fz K H' (tN fo) vf := fz_ex eX ff
      -- position
      refine q_asgE (K := K) (ds := List.replicate m (.int ((0 : Nat) : Int))) (el_rep (WT.el_lst (ea_d (ed_ev ev_c fz_int) ea_nil) (by decide)) (hlen (e03.trans eX) rfl) (by omega)) fun pl ys H6 hpl e6 h6 f6 => ?_
      have hx1 : ys = vN (List.replicate m 0) := by
        exact (fzl_nats (K := K) (H := H6) (ns := List.replicate m 0)).mp (by rw [List.map_replicate]; exact f6)
      subst hx1
      refine q_forZip (ds := fo.map fun n : Nat => PyData.int (n : Int)) (es := oo.map fun n : Nat => PyData.int (n : Int)) (ed_var rfl (fz_ex e6 vf')) (ed_var rfl (fz_ex e6 fo')) (by rw [List.length_map, List.length_map, O.len, O2.len]) fun H8 e8 =>
        ⟨fun i σ' H9 => (∃ z8 z9, σ' = [some y, some vc, some (.ref po), some vf, some (.ref a), some (.ref fl), some x, some (.ref pl), z8, z9]) ∧ TEx H8 H9 ∧ Ex H' H9 ∧ ∃ F, H9 pl = some (.lst (vN F)) ∧ F.length = m ∧ ∀ j a b, j < i → fo[j]? = some a → oo[j]? = some b → F[a]? = some b,
          ⟨⟨_, _, rfl⟩, TEx.refl _, e6.trans e8, List.replicate m 0, e8 _ _ h6, List.length_replicate, fun j a b hj => absurd hj (Nat.not_lt_zero _)⟩, fun i σ' H' h => h.2.1, ?_, ?_⟩
      · rintro j x1 x2 d1 d2 σ' H9 H10 hd1 hd2 eH hx1 hx2 ⟨⟨z8, z9, rfl⟩, tx, eY, F, hF, hFl, inv⟩
        obtain ⟨p1, hp1, rfl⟩ := tN_get hd1
        obtain ⟨p2, hp2, rfl⟩ := tN_get hd2
        have hxx := fz_intI hx1
        subst hxx
        have hxx2 := fz_intI hx2
        subst hxx2
        have ham := perm_lt hfoP hp1
        refine s_setL (v := .int (p2 : Int)) (eH _ _ hF) (ev_var rfl) (ev_var rfl) (ev_var rfl) (by rw [vN_len, hFl]; exact ham) fun H11 e11 => ⟨⟨_, _, rfl⟩, (tx.trans (tex_of (eH.trans e11))).trans (tex_lst (e11 _ _ (eH _ _ hF))), (eY.trans (eH.trans e11)).mut hpl, F.set p1 p2, ?_, by rw [List.length_set, hFl], fun j' b b2 hj hb hb2 => ?_⟩
        · unfold vN
          rw [List.map_set]
          exact upd_same
        · rw [List.getElem?_set]
          by_cases hac : p1 = b
          · subst hac
            have hij : j = j' := (List.getElem?_inj (List.getElem?_eq_some_iff.mp hp1).1 O.nd).mp (by rw [hp1, hb])
            subst hij
            rw [hp2] at hb2
            rw [if_pos rfl, if_pos (by omega), hb2]
          · rw [if_neg hac]
            refine inv j' b b2 ?_ hb hb2
            rcases Nat.lt_or_eq_of_le (Nat.le_of_lt_succ hj) with z | z
            · exact z
            · subst z
              rw [hp1] at hb
              exact absurd (Option.some.inj hb) hac
      · rintro σ' H9 ⟨⟨z8, z9, rfl⟩, tx, eY, F, hF, hFl, inv⟩
        have eF : F = zipPos m fo oo := tab_of hFl fun x hx => by
          obtain ⟨h1, h2⟩ := idx_lt hfoP hx
          have hl' := O2.len
          have g2 : oo[fo.idxOf x]? = some (oo.getD (fo.idxOf x) 0) := by
            rw [List.getD_eq_getElem?_getD, List.getElem?_eq_getElem (by omega)]
            rfl
          exact inv _ _ _ (by rw [List.length_map, O.len]; omega) h2 g2
        subst eF
        have hA := aut_order hM.sq hfo hoom
        have hpos : ∀ {σ : L2.St} {H10 : Hp}, H10 pl = some (.lst (vN (zipPos m fo oo))) → σ[7]? = some (some (.ref pl)) → Ed K (tCB (rTupOf K) (tCons (tVar 7) tNil)) σ H10 (tN (zipPos m fo oo)) := fun h h7 => ed_tupOfL (ev_var h7) (sq_of h) (fzl_nats.mpr rfl)
        have L9 := L.ex eY
        have hhas : Ev (SlX.tMethSl C (spHas K C) E0 (tVar 4) (tCons (tCB (rTupOf K) (tCons (tVar 7) tNil)) tNil)) [some y, some vc, some (.ref po), some vf, some (.ref a), some (.ref fl), some x, some (.ref pl), z8, z9] H9 (.bl (decide (sift m c 0 (zipPos m fo oo) = List.range m))) :=
          ev_bool (ed_meth (K := K) (as := [.d (tN (zipPos m fo oo))]) (ev_var rfl) L9.slt (ea_d (hpos hF rfl) ea_nil) fun H10 e10 ws hw Q2 hQ2 => by
            obtain ⟨y1, rfl, hy1⟩ := agl1 hw
            exact ⟨a, o, m, c, y1, _, rfl, L9.ex e10, hW.full.ok, by omega, agd hy1, hA.1, fun H11 e11 => hQ2 _ H11 e11 fz_bl⟩)
        have hiff := has_iff hW.full hA.1
        refine s_when (b := !decide (sift m c 0 (zipPos m fo oo) = List.range m)) (et_not (et_test hhas)) (fun hb H10 e10 => ?_) (fun hb H10 e10 => ?_)
        · have hF10 := e10 _ _ hF
          have L10 := L9.ex e10
          refine q_dropM (c_meth (ev_var rfl) L10.slt fun H11 e11 => hpos (e11 _ _ hF10) rfl H11 (Ex.refl _) _ fun v12 H12 e12 f12 => c_nil ⟨a, o, m, c, v12, _, rfl, L10.ex (e11.trans e12), hW, by omega, f12, hA.1, fun c' H13 g1 g2 g3 g4 => ?_⟩)
          have npl : pl ∉ o.all a := L.fresh hpl
          have e1012 := e11.trans e12
          have hF13 : H13 pl = some (.lst (vN (zipPos m fo oo))) := g2 _ _ npl (e1012 _ _ hF10)
          have hfs13 : H13 fl = some (.lst fs) := g2 _ _ nfl (e1012 _ _ (e10 _ _ (eY _ _ hfs)))
          have tx13 : TEx H' H13 := (tex_of (eY.trans (e10.trans e1012))).trans ((L10.ex e1012).tex g2)
          have ffs13 := FzL.mono tx13 _ _ ffs
          have ex13 : Ex H3 H13 := fun q u hq => g2 q u (fun hm => by
            have := hfr q hm
            rw [hq] at this
            cases this) ((eX.trans (eY.trans (e10.trans e1012))) q u hq)
          have hfsl := fzl_len ffs13
          rw [List.length_map] at hfsl
          refine s_appD (K := K) hfs13 (ev_var rfl) (hpos hF13 rfl) (by omega) fun v14 H14 e14 f14 => ⟨c', us ++ [zipPos m fo oo], _, _, _, _, _, rfl, (g1.ex e14).away nfl (tex_lst (e14 _ _ hfs13)), g3, fun g => ?_, fun u hu => ?_, by rw [List.length_append]; exact Nat.succ_le_succ husl, fun j o' hj ho' => ?_, upd_same, ?_, (ex13.trans e14).mut hfl3⟩
          · rw [g4 g]
            have hPu : ∀ s, s ∈ us ++ [zipPos m fo oo] → IsP m s := fun s hs => by
              rcases List.mem_append.mp hs with z | z
              · exact (hus s z).1
              · rw [List.mem_singleton.mp z]
                exact hA.1
            have hPc : ∀ s, (s ∈ c.strong ∨ s = zipPos m fo oo) → IsP m s := fun s hs => by
              rcases hs with z | z
              · exact hW.full.ok.isP s z
              · exact z ▸ hA.1
            constructor
            · intro h
              refine Gen.mono hPu (fun s hs => ?_) h
              rcases hs with z | z
              · exact Gen.sub (fun s hs => List.mem_append_left _ hs) ((hG s).mp (Gen.of (spr_isP hW.full.ok.isP) ⟨z, fun i hi => absurd hi (Nat.not_lt_zero _)⟩))
              · exact Gen.of hPu (z ▸ List.mem_append_right _ (List.mem_singleton.mpr rfl))
            · intro h
              refine Gen.mono hPc (fun s hs => ?_) h
              rcases List.mem_append.mp hs with z | z
              · exact Gen.sub (fun s hs => .inl hs.1) ((hG s).mpr (Gen.of (fun s hs => (hus s hs).1) z))
              · exact Gen.of hPc (.inr (List.mem_singleton.mp z))
          · rcases List.mem_append.mp hu with z | z
            · exact hus u z
            · rw [List.mem_singleton.mp z]
              exact hA
          · rcases Nat.lt_or_eq_of_le (Nat.le_of_lt_succ hj) with z | z
            · exact Gen.sub (fun s hs => List.mem_append_left _ hs) (hdone j o' z ho')
            · subst z
              rw [hoo] at ho'
              cases (Option.some.inj ho')
              exact Gen.of (fun s hs => by
                rcases List.mem_append.mp hs with z | z
                · exact (hus s z).1
                · rw [List.mem_singleton.mp z]
                  exact hA.1) (List.mem_append_right _ (List.mem_singleton.mpr rfl))
          · rw [List.map_append]
            exact fzl_append (FzL.mono ((tex_of e14).trans (tex_lst (e14 _ _ hfs13))) _ _ ffs13) (fzl_cons (Fz.mono (tex_lst (e14 _ _ hfs13)) _ _ f14) fzl_nil)
        · have hyes : sift m c 0 (zipPos m fo oo) = List.range m := Classical.byContradiction fun z => by
            rw [decide_eq_false z] at hb
            cases hb
          refine ⟨c, us, fs, _, _, _, _, rfl, L9.ex e10, hW, hG, hus, by omega, fun j o' hj ho' => ?_, e10 _ _ (eY _ _ hfs), fzl_ex (eY.trans e10) ffs, eX.trans (eY.trans e10)⟩
          rcases Nat.lt_or_eq_of_le (Nat.le_of_lt_succ hj) with z | z
          · exact hdone j o' z ho'
          · subst z
            rw [hoo] at ho'
            cases (Option.some.inj ho')
            exact (hG _).mp (hiff.mp hyes)
    · obtain ⟨c, us, fs, z6, z7, z8, z9, rfl, L, hW, hG, hus, husl, hdone, hfs, ffs, eX⟩ := h
      rw [hxl] at husl hdone
      have hFr : FrameOk m M us := by
        refine ⟨hus, fun g => ⟨fun h => aut_gen hM.sq hus h, fun h => ?_⟩⟩
        obtain ⟨oo, hoo, rfl⟩ := order_aut hfo h
        obtain ⟨j, hj⟩ := List.getElem?_of_mem hoo
        exact hdone j oo (List.getElem?_eq_some_iff.mp hj).1 hj
      refine s_retD (ed_tup (ds := [.int (((laps m M m).2.length : Nat) : Int), tNN us]) (ea_d (ed_ev (ev_is (ev_len (ev_var rfl) (sq_of ((e3.trans eX) _ _ hpo))) (by rw [hxl])) fz_int) (ea_d (ed_tupOfL (ev_var rfl) (sq_of hfs) ffs) ea_nil)) (show 2 ≤ 100000 by decide)) fun v H10 e10 f => k us v H10 (e03.trans (eX.trans e10)) hFr husl f
theorem ok_frame (B : Bt mg) (o_look_at_picture : Okd P w K mg base "look_at_picture" ["picture"] s_look_at_picture 3 (spD K 1 rLook)) (o_told_frame : Okd P w K mg base "told_frame" ["picture"] s_told_frame 8 (spFrame K)) (d : DefIn K mg "frame" ["picture"] s_frame) : Okd P w K mg base "frame" ["picture"] s_frame 9 (spFrame K) := by
  refine Okd.mk d sc_frame (fun vs H Q E h => ?_) (fun f cdv A outer s H vs Q E hr h => ?_)
  · obtain ⟨k, M, y, rfl, _⟩ := h
    rfl
  · obtain ⟨m, M, y, rfl, hM, hy, k⟩ := h
    refine ⟨_, (pss_cons (ps_expr (pe_fn o_look_at_picture (hr.mono (by decide)) (pa_cons (pv 0) pa_nil)))
      (pss_one (ps_ret (pe_fn o_told_frame (hr.mono (by decide)) (pa_cons (pv 0) pa_nil))))), ?_⟩
    refine q_dropD (ed_call (ea_d (ed_var rfl hy) ea_nil) (pr_D ⟨m, M, rfl, hM, rfl⟩)) fun H1 e1 => ?_
    exact s_retM (c_call (Evl.ea_cons (ev_var rfl) Evl.ea_nil H1 (Ex.refl _) _ fun H2 e2 => ⟨m, M, y, rfl, hM, fz_ex (e1.trans e2) hy, fun us v H3 e3 h1 h2 h3 => k us v H3 ((e1.trans e2).trans e3) h1 h2 h3⟩))
end
abbrev s_shows_frame : Stmt := top 29
abbrev N_shows_frame : List Str := ["picture", "value", "many", "one"]
theorem sc_shows_frame : FnScope N_shows_frame ["picture", "value"] (defScope s_shows_frame) := ⟨rfl, rfl, rfl, by decide +kernel, rfl, by decide +kernel, by decide +kernel⟩
def rShowF (as : List Ag) (d : PyData) : Prop := ∃ (k : Nat) (M us : List (List Nat)), as = [.d (tNN M), .d (frD k M us)] ∧ Pic k M ∧ FrameOk k M us ∧ us.length ≤ (laps k M k).2.length ∧ d = .bool true
theorem ev_chainE {σ : L2.St} {H : Hp} {ta tb tc : TE} {x y z : V} (ha : Ev ta σ H x) (hb : Ev tb σ H y) (hc : Ev tc σ H z) (h1 : scal x y = true) (h2 : scal y z = true) (e1 : x = y) (e2 : y = z) : Ev (tChain rEq rEq ta tb tc) σ H (.bl true) := fun H1 e Q q =>
  ha H1 e _ fun H2 e2' => hb H2 (e.trans e2') _ fun H3 e3 => ⟨h1, true, by rw [decide_eq_true e1], iteT (hc H3 ((e.trans e2').trans e3) _ fun H4 e4 => ⟨h2, by rw [decide_eq_true e2]; exact q H4 ((e2'.trans e3).trans e4)⟩)⟩
section
variable {P : Program} {w : World} {K : PySem.W.Frag} {mg : Str → Option Value} {base : Heap} {C : Addr}
theorem ok_shows_frame (B : Bt mg) (c_Lanes : LCls K C) (o_look_at_picture : Okd P w K mg base "look_at_picture" ["picture"] s_look_at_picture 3 (spD K 1 rLook)) (o_is_position_of : Okd P w K mg base "is_position_of" ["many", "value"] s_is_position_of 2 (spD K 2 rIsPos)) (o_told_moved : Okd P w K mg base "told_moved" ["picture", "position"] s_told_moved 1 (spD K 2 rMoved))
    (o_is_int : Okd P w K mg base "is_int" ["value", "low", "high"] s_is_int 1 (spD K 3 rIsInt)) (o_least_orders : Okd P w K mg base "least_orders" ["picture"] s_least_orders 2 (spOrders K)) (o_Lanes : Okc P w K mg base "Lanes" 6 C (spInitL K C)) (o_Lanes_count : Okm P w K mg base C "count" 1 (spCount K C))
    (d : DefIn K mg "shows_frame" ["picture", "value"] s_shows_frame) : Okd P w K mg base "shows_frame" ["picture", "value"] s_shows_frame 8 (spD K 2 rShowF) := by
  refine Okd.mk d sc_shows_frame (fun vs H Q E h => spD_len h) (fun f cdv A outer s H vs Q E hr h => ?_)
  obtain ⟨as, d, _, hv, ⟨m, M, us, rfl, hM, hF, hul, rfl⟩, k⟩ := h
  obtain ⟨y, z, rfl, hy, hz⟩ := agl2 hv
  replace hy := agd hy
  replace hz := agd hz
  have hm := hM.le
  have hm1 := hM.pos
  have hsz := laps_len hm M m
  have h5 := pow5 hm
  refine ⟨_, (pss_cons (ps_expr (pe_fn o_look_at_picture (hr.mono (by decide)) (pa_cons (pv 0) pa_nil)))
      (pss_cons (ps_if (PW.pt (pw_or (pt_not (pt_val (pe_callB call_isi (by rfl) B.isinstance boot_isinstance (pa_cons (pv 1) (pa_cons (pe_bltn (v := V.ty "tuple") (u := Value.type "tuple") (by rfl) B.tuple boot_tuple rfl) pa_nil))))) (pw_or (pt_cmpR op_ne (pe_callB call_len_seq (by rfl) B.len boot_len (pa_cons (pv 1) pa_nil)) pe_int (nomark _)) (pw_or1 (pt_not (pt_val (pe_callB call_isi (by rfl) B.isinstance boot_isinstance (pa_cons (pe_ix ix_tup (pv 1) pe_int (fun _ _ => rfl)) (pa_cons (pe_bltn (v := V.ty "tuple") (u := Value.type "tuple") (by rfl) B.tuple boot_tuple rfl) pa_nil))))))))) (pss_one (ps_ret pe_bl)) pss_nil)
      (pss_cons (ps_if (pt_not (pt_val (pe_callB (cr_all rfl) (by rfl) B.all boot_all (pa_cons (pe_lc (own := [("one", 3)]) rfl sc_shows_frame.nd (pi_tup (pe_ix ix_tup (pv 1) pe_int (fun _ _ => rfl))) (blkOk_by (own := [("one", 3)]) (N := N_shows_frame) (sc := defScope s_shows_frame) (by decide +kernel)) (fun _ _ _ _ _ => pg_name (i := 3) sc_shows_frame.nd rfl (Or.inl rfl)) (fun _ _ _ _ _ => pts_nil) (fun _ _ _ _ _ => (pe_and (pe_fn o_is_position_of (hr.mono (by decide)) (pa_cons (pe_callB (cK (K := K) (r := rLenS) call_len_seq rfl) (by rfl) B.len boot_len (pa_cons (pv 0) pa_nil)) (pa_cons (pv 3) pa_nil))) (pe_one (pe_cmpR (oK (K := K) (r := rEqD) (op_eqD (room64 hr)) rfl) (pe_fn o_told_moved (hr.mono (by decide)) (pa_cons (pv 0) (pa_cons (pv 3) pa_nil))) (pv 0) (nomark _)))))) pa_nil)))) (pss_one (ps_ret pe_bl)) pss_nil)
      (pss_cons (ps_set (i := 2) sc_shows_frame.nd rfl (Or.inl rfl) (pe_callB call_len_seq (by rfl) B.len boot_len (pa_cons (pe_ix ix_tup (pe_fn o_least_orders (hr.mono (by decide)) (pa_cons (pv 0) pa_nil)) pe_int (fun _ _ => rfl)) pa_nil)))
      (pss_one (ps_ret (pe_and (pe_fn o_is_int (hr.mono (by decide)) (pa_cons (pe_ix ix_tup (pv 1) pe_int (fun _ _ => rfl)) (pa_cons pe_int (pa_cons (pv 2) pa_nil)))) (pe_one (pe_chain op_eq op_eq (pe_ix ix_tup (pv 1) pe_int (fun _ _ => rfl)) (pv 2) (pe_meth0 (pe_mkC o_Lanes (hr.mono (by decide)) (pa_cons (pe_callB call_len_seq (by rfl) B.len boot_len (pa_cons (pv 0) pa_nil)) (pa_cons (pe_ix ix_tup (pv 1) pe_int (fun _ _ => rfl)) pa_nil))) c_Lanes.cl o_Lanes_count (hr.mono (by decide)))))))))))), ?_⟩
  have hlenM : ∀ {σ : L2.St} {H1 : Hp}, Ex H H1 → σ[0]? = some (some y) → Ev (tCB (rLenS K) (tCons (tVar 0) tNil)) σ H1 (.int (m : Int)) := fun e h0 => ev_is (ev_lenT (ed_var h0 (fz_ex e hy))) (by rw [List.length_map, hM.len])
  have hnN : us.length ≤ 3125 := by omega
  refine q_dropD (ed_call (ea_d (ed_var rfl hy) ea_nil) (pr_D ⟨m, M, rfl, hM, rfl⟩)) fun H1 e1 => ?_
  have hz1 := fz_ex e1 hz
  have hv1 : ∀ {σ : L2.St} {H2 : Hp}, Ex H1 H2 → σ[1]? = some (some z) → Ed K (tOp (rIxT K) (tVar 1) (tC (.int 1))) σ H2 (.tuple (us.map tN)) := fun e h => ed_ixT (i := 1) (ed_var h (fz_ex e hz1)) ev_c rfl
  refine q_when (b := false) (et_is (et_or (a := false) (et_not (a := true) (et_test (ev_isiT (ed_var rfl hz1) rfl))) fun _ => et_or (a := false) (et_is (et_test (ev_op (ev_lenT (ed_var rfl hz1)) ev_c (rv_ne rfl))) rfl) fun _ => et_not (a := true) (et_test (ev_isiT (hv1 (Ex.refl _) rfl) rfl))) rfl) (fun z => nomatch z) fun _ H2 e2 => ?_
  have e02 := e1.trans e2
  refine q_when (b := false) (et_not (a := true) (et_test (ev_is (ev_all (bs := us.map fun _ => true) (el_mapT (hv1 e2 rfl) (by rw [List.length_map]; omega) (by rw [List.length_map, List.length_map, List.length_map]) (fun _ => rfl) fun i x d e H3 e3 hd he f => ?_)) (by simp)))) (fun z => nomatch z) fun _ H3 e3 => ?_
  · obtain ⟨u, hu, rfl⟩ := map_get hd
    obtain ⟨b, hb, rfl⟩ := map_get he
    obtain ⟨b', _, rfl⟩ := map_get hb
    have hA := hF.aut u (List.mem_of_getElem? hu)
    have e03 := e02.trans e3
    refine ed_ev (ev_is (ev_andV (ev_bool (ed_call (ea_v (hlenM e03 rfl) (ea_d (ed_var rfl f) ea_nil)) (pr_D ⟨m, u, rfl, hm, hA.1, rfl⟩))) fun _ => ev_eqD (ed_call (ea_d (ed_var rfl (fz_ex e03 hy)) (ea_d (ed_var rfl f) ea_nil)) (pr_D ⟨m, M, u, rfl, hM.sq, hm, hA.1, rfl⟩)) (ed_var rfl (fz_ex e03 hy)) (Plain.of (tNN_plain _)) (Plain.of (tNN_plain _))) (w := .bl true) ?_) fz_bl
    rw [hA.2, eqv_yes (tNN_plain _).1]
    rfl
  · have e03 := e02.trans e3
    obtain ⟨fo, os, hos, _, O, Co⟩ := orders_take (k := m) (M := M)
    refine q_asgM (c_cb (c_cons (c_op ?_)))
    refine c_call (Evl.ea_cons (ev_var rfl) Evl.ea_nil H3 (Ex.refl _) _ fun H4 e4 => ⟨m, M, y, rfl, hM.sq, hm, fz_ex (e03.trans e4) hy, fun t vc po xs H5 e5 ht fc hpo fx => ?_⟩)
    refine ev_c H5 (Ex.refl _) _ fun H6 e6 => ⟨t, [vc, .ref po], 1, .ref po, rfl, rfl, st_of (e6 _ _ ht), rfl, c_nil ⟨po, xs, rfl, .inl (sq_of (e6 _ _ hpo)), ?_⟩⟩
    have hxl := fzl_len fx
    rw [List.length_map] at hxl
    rw [hxl]
    have e06 := e03.trans (e4.trans (e5.trans e6))
    have hone : 1 ≤ (laps m M m).2.length := by
      rw [hos]
      simp
    have hcnt := orders_count hM.sq (kept_nd m M) fun g => mem_kept
    have hu : ∀ u ∈ us, IsP m u := fun u hu => (hF.aut u hu).1
    have hz6 := fz_ex (e2.trans (e3.trans (e4.trans (e5.trans e6)))) hz1
    have e16 := e2.trans (e3.trans (e4.trans (e5.trans e6)))
    refine s_ret (ev_is (ev_andV (a := true) (b := true) (ev_is (ev_bool (ed_call (ea_v (ev_int (ed_ixT (i := 0) (ed_var rfl hz6) ev_c rfl)) (ea_v ev_c (ea_v (ev_var rfl) ea_nil))) (pr_D ⟨_, _, _, rfl, rfl⟩))) ?_) fun _ => ev_chainE (y := .int (((laps m M m).2.length : Nat) : Int)) (ev_int (ed_ixT (i := 0) (ed_var rfl hz6) ev_c rfl)) (ev_var rfl) (z := .int (((laps m M m).2.length : Nat) : Int)) (fun H7 e7 Q2 q2 => ?_) rfl rfl rfl rfl) (w := .bl true) rfl) fun H7 e7 => k _ H7 (e06.trans e7) fz_bl
    · rw [decide_eq_true (show (1 : Int) ≤ (((laps m M m).2.length : Nat) : Int) by omega), decide_eq_true (Int.le_refl _)]
      rfl
    · refine c_mkL (us := us) hm1 (by omega) hu (ea_v (hlenM (e06.trans e7) rfl) (ea_d (d := .tuple (us.map tN)) (hv1 (e16.trans e7) rfl) ea_nil)) fun a o c H8 L8 e8 _ hW hG => ⟨a, o.dx, _, rfl, L8.slt, ⟨a, o, m, c, rfl, L8, hW.full.ok, by omega, fun H9 e9 => ?_⟩⟩
      have hcf := count_ok hW.full (kept_nd m M) fun g => by rw [mem_kept, hG g, hF.gen g]
      rw [hcf, ← hcnt]
      exact q2 H9 (e8.trans e9)
end
end WT
/-! Toolkit V: a dict of one pair whose key is a tuple. -/
namespace WT
open PySem PySem.Spec PyProof.Rows L2 Evl
/-- {k: v}, k a tuple -/
def tDisp1T (tk tv : TE) : TE := fun σ H Q => ∀ p, H p = none → tk σ (upd H p (.dT [])) fun x H1 => tv σ H1 fun y H2 => H2 p = some (.dT []) ∧ ∃ (ks : List Key) (b : Addr), x = .ref b ∧ H2 b = some (.tup (ks.map kV)) ∧ Q (.ref p) (upd H2 p (.dT [(ks, y)]))
theorem pe_disp1T {X : Cx} {pos : Pos} {k v : Expr} {tk tv : TE} (hu : X.A.units + 1 < cLine) (hk : PE X k tk) (hv : PE X v tv) : PE X (.Dict [some k] [v] pos) (tDisp1T tk tv) := by
  refine ⟨fun pins s σ H Q I q => ?_⟩
  have hn := I.hok.fresh (Nat.le_refl s.heap.objs.size)
  have I1 := I.laid (a := s.heap.objs.size) (o := .dT []) (h' := s.heap.push { cls := .type "dict", data := .dict #[] }) (t' := s.toks) (fun _ _ q => Heap.get?_push_of_some _ q) (Nat.le_refl _) (dt_empty s.heap I.big)
  rw [arm_eval_Dict, zip_pairTrees [some k] [v] X.env pos rfl rfl, dictDisplay_pairs (pairTrees [some k] [v] X.env pos) (by simp [pairTrees]) (by simp [pairTrees])]
  refine wpAny_bind (wpAny_standAt (wpAny_bind ?_))
  refine wpAny_subDictH (knd := tupleKind (mixKind X.prog X.w)) (show X.A.units < cLine from Nat.lt_of_succ_lt hu) (by simp [pairTrees]) ?_
  refine pairTrees_cons_walk (L2.thn (hk.run pins _ σ _ _ I1 (q _ hn)) fun u s1 ⟨x, H1, I2, rx, q1⟩ => L2.thn (hv.run pins s1 σ H1 _ I2 q1) fun w2 s2 ⟨y, H2, I3, ry, e, ks, b, ex, eb, q2⟩ => pairTrees_nil_walk ?_)
  subst ex
  obtain rfl : u = Value.ref b := rx
  obtain ⟨z, hd, vs0, r0, dd⟩ := dt_of I3.hok e
  cases r0
  refine ⟨[(ks, b, w2)], ⟨rfl, rfl, key_of I3.hok eb, True.intro⟩, dd, fun h' tk' dd' hs => wpAny_pure ⟨.ref s.heap.objs.size, _, ?_, rfl, q2⟩⟩
  obtain ⟨q, es, ep, hq, h2, h3, h4, _, h5⟩ := dd'
  refine d_write I3 (by rw [e]; exact True.intro) hs ⟨q, hq⟩ ⟨by rw [sizeLine_eq]; simp, hd, [(ks, b, w2)], .cons ⟨rfl, ?_, ry⟩ .nil, q, es, ep, hq, h2, h3, h4, h5⟩
  rw [upd_ne (ne_of eb e (fun z => nomatch z))]
  exact eb
end WT
/-! sorted(a dict whose keys are tuples of ints) -/
namespace WT
open PySem PySem.Spec PyProof.Rows L2 Evl PySem.W
section
variable {prog : Program} {w : World} {A : Around} {E : Value → Shared → Prop} {s : Shared} {T : String} {r d : Addr} {n : Nat} {P : Nat → Value → Prop} {OK : Heap → Prop}
theorem w_collect {R : List Value → Shared → Prop} (K : KdlSrc prog w T r d n P OK) (hh : A.handled = none) (hok : OK s.heap) (hn : n ≤ sizeLine)
    (h : ∀ (h' : Heap) (tk : Nat) (acc : Array Value), (∀ b o, s.heap.get? b = some o → h'.get? b = some o) → s.heap.objs.size < h'.objs.size → ItemsOf P acc n → R acc.toList { s with heap := h', toks := tk }) :
    wpAny (model prog w) A (collect (.ref r)) R E s := by
  have hlt := K.there _ hok
  unfold collect
  refine wpAny_bind (wpAny_runValue (codeAny_builtin entry_proto_collect' ?_))
  rw [Around.under_plainId PySem.F.plain_proto_collect _]
  show wpAny _ A.in1 (newList [] >>= fun l => again (.builtin "list.__iadd__" ⟨[l, .ref r], []⟩)) _ _ s
  refine wpAny_bind (wpAny_newObj_type ?_)
  refine wpAny_pure ⟨plainId_quiet PySem.F.plain_list_iadd _, codeAny_builtin entry_list_iadd' ?_⟩
  rw [Around.under_plainId PySem.F.plain_list_iadd _]
  have hS₁ : (s.heap.push { cls := .type "list", data := .seq ([] : List Value).toArray }).get? s.heap.objs.size = some { cls := .type "list", data := .seq #[] } := Heap.get?_push_size _ rfl
  show wpAny _ A.in1 (Builtin.List.listExtendWith (.ref s.heap.objs.size) (.ref r) (.ref s.heap.objs.size)) _ _ _
  have key := kdl_extend (A := A) (s := { s with heap := s.heap.push { cls := .type "list", data := .seq ([] : List Value).toArray } }) K hh (K.keep _ _ hok fun b _ o e => Heap.get?_push_of_some _ e)
    (R := fun (q : Result) (s' : Shared) => ∃ (h' : Heap) (tk : Nat) (acc' : Array Value) (c' : Nat), q = .ok (.ret (.ref s.heap.objs.size)) ∧ s' = { s with heap := h', toks := tk } ∧
      (∀ b o, s.heap.get? b = some o → h'.get? b = some o) ∧ h'.get? s.heap.objs.size = some { cls := .type "list", dict := none, data := .seq acc' c', slots := #[] } ∧ ItemsOf P acc' n)
    s.heap.objs.size (Nat.ne_of_gt hlt.1) (Nat.ne_of_gt hlt.2) (.ref s.heap.objs.size) 0 hS₁
    (fun h' tk acc' c' hk hS' hacc => ⟨h', tk, acc', c', rfl, rfl, fun b o e => hk b o (Nat.ne_of_lt (Heap.lt_size e)) (Heap.get?_push_of_some _ e), hS', hacc⟩) hn
  refine wpAny_mono key (fun fin s' x => ?_) fun e s' x => ?_
  · cases fin with
    | done f =>
      obtain ⟨h', tk, acc', c', e, rfl, hk, hS', hacc⟩ := x
      cases e
      show wpAny _ A (load s.heap.objs.size >>= _) _ _ _
      refine wpAny_bind (wpAny_load hS' ?_)
      refine wpAny_pure ?_
      exact h h' tk acc' hk (Heap.lt_size hS') hacc
    | again c₁ =>
      refine ⟨x.1, codeAny_mono x.2 fun q s₂ y => ?_⟩
      obtain ⟨h', tk, acc', c', rfl, rfl, hk, hS', hacc⟩ := y
      show wpAny _ A (load s.heap.objs.size >>= _) _ _ _
      refine wpAny_bind (wpAny_load hS' ?_)
      refine wpAny_pure ?_
      exact h h' tk acc' hk (Heap.lt_size hS') hacc
  · obtain ⟨_, _, _, _, e', _⟩ := x
    cases e'
/-- sorted(r) up to the sort itself -/
theorem w_sortedOf {Q : Value → Shared → Prop} (K : KdlSrc prog w T r d n P OK) (hh : A.handled = none) (hok : OK s.heap) (hn : n ≤ sizeLine)
    (h : ∀ (h' : Heap) (tk : Nat) (acc : Array Value), (∀ b o, s.heap.get? b = some o → h'.get? b = some o) → s.heap.objs.size < h'.objs.size → ItemsOf P acc n →
      wpAny (model prog w) A.in1 (call (.builtin "list.sort") [.ref h'.objs.size]) (fun _ s' => Q (.ref h'.objs.size) s') E { s with heap := h'.push { cls := .type "list", data := .seq acc.toList.toArray }, toks := tk }) :
    wpAny (model prog w) A (call (.builtin "sorted") [.ref r]) Q E s := by
  refine Calls.call_function_entry kind_sorted plain_sorted entry_sorted (args_sorted1 _) ?_
  unfold Builtin.«sorted»
  refine wpAny_bind (m := checkCount "sorted" 1 1 _) (wpAny_pure ?_)
  refine wpAny_bind (w_collect (A := A.in1) K hh hok hn fun h' tk acc hk hlt hacc => ?_)
  refine wpAny_bind (wpAny_newList ?_ (by rw [Array.length_toList, hacc.1]; exact hn))
  refine wpAny_bind (wpAny_holding (wpAny_mono (h h' tk acc hk hlt hacc) (fun _ s' x => ?_) fun _ _ e => e))
  exact wpAny_pure ⟨_, rfl, x⟩
end
abbrev rowD (b : List Int × Addr) : PyData := .tuple (b.1.map .int)
theorem rowD_le : dataLe false rowD = fun p q => decide (p.1 ≤ q.1) := by
  funext p q
  show (!dataLt (.tuple (q.1.map .int)) (.tuple (p.1.map .int))) = _
  rw [dataLt_tuple]
  show (!rowLt (q.1.map .int) (p.1.map .int)) = _
  rw [dataLt_ints]
  by_cases h : q.1 < p.1
  · have h' : ¬ p.1 ≤ q.1 := fun r => List.not_lt.mpr r h
    simp [h, h']
  · have h' : p.1 ≤ q.1 := List.not_lt.mp h
    simp [h, h']
theorem rowD_sorted (bs : List (List Int × Addr)) : ((bs.mergeSort (dataLe false rowD)).map (·.1)).Pairwise (· ≤ ·) := by
  rw [rowD_le]
  have h := List.pairwise_mergeSort (le := fun p q : List Int × Addr => decide (p.1 ≤ q.1)) (fun a b c h1 h2 => by
    simp only [decide_eq_true_eq] at *
    exact List.le_trans h1 h2) (fun a b => by
    simp only [Bool.or_eq_true, decide_eq_true_eq]
    exact List.le_total a.1 b.1) bs
  rw [List.pairwise_map]
  exact h.imp fun h => by simpa using h
theorem each_refs {h : Heap} : ∀ {out : List Value} {bs : List (List Int × Addr)}, EachIs (fun v b => v = Value.ref b.2) out bs → out = bs.map fun b => Value.ref b.2
  | _, _, .nil => rfl
  | _, _, .cons e t => by rw [e, each_refs (h := h) t]; rfl
theorem refs_each : ∀ bs : List (List Int × Addr), EachIs (fun v b => v = Value.ref b.2) (bs.map fun b => Value.ref b.2) bs
  | [] => .nil
  | _ :: bs => .cons rfl (refs_each bs)
theorem vals_of_refs2 : ∀ (ks : List (List Int × Addr)), Vals (ks.map fun p => V.ref p.2) (ks.map fun p => Value.ref p.2)
  | [] => .nil
  | _ :: ks => .cons rfl (vals_of_refs2 ks)
theorem reads_ints {h : Heap} : ∀ {k : List Int} {us : List Value}, Vals (k.map V.int) us → ReadsAll h us (k.map .int) []
  | [], _, r => by rw [List.map_nil] at r; cases r; exact .nil
  | i :: k, _, r => by
    rw [List.map_cons] at r
    cases r with
    | cons e t =>
      obtain ⟨t0, rfl⟩ := e
      exact ReadsAll.cons (as := []) (bs := []) (.int i t0) (reads_ints t)
theorem reads_key {P : Program} {w : World} {H : Hp} {h : Heap} {k : List Int} {a : Addr} (ok : HOk P w H h) (e : H a = some (.tup (k.map V.int))) : Reads h (.ref a) (.tuple (k.map .int)) [] := by
  obtain ⟨_, its, r, o, h1, h2, n, h3⟩ := (show ObjOk P w H h a (.tup (k.map V.int)) from ok a _ e)
  exact .tuple h1 h2 h3 (by simpa using reads_ints r)
theorem reads_each {P : Program} {w : World} {H : Hp} {h h' : Heap} {l : Addr} (ok : HOk P w H h) (kp : ∀ b o, h.get? b = some o → h'.get? b = some o) : ∀ {bs : List (List Int × Addr)}, (∀ b ∈ bs, H b.2 = some (.tup (b.1.map V.int))) →
    EachIs (fun v b => ∃ as, Reads h' v (rowD b) as ∧ l ∉ as) (bs.map fun b => Value.ref b.2) bs
  | [], _ => .nil
  | b :: bs, hb => .cons ⟨[], PyProof.Rows.Reads.keeps kp (reads_key ok (hb b List.mem_cons_self)), by simp⟩ (reads_each ok kp fun c hc => hb c (List.mem_cons_of_mem _ hc))
section
variable {X : Cx} {pins : List (Addr × Obj)} {σ : L2.St} {H : Hp} {s : Shared}
/-- the sort of a new list of tuples of ints, at the end of sorted -/
theorem w_sortRows {Q : Value → Shared → Prop} (I : Inv X pins σ H s) (hu : X.A.units + 64 < cLine) {h' : Heap} {tk : Nat} (hk : ∀ b o, s.heap.get? b = some o → h'.get? b = some o) (hlt : s.heap.objs.size ≤ h'.objs.size)
    (bs : List (List Int × Addr)) (hb : ∀ b ∈ bs, H b.2 = some (.tup (b.1.map V.int))) (hne : ∀ b ∈ bs, b.1 ≠ []) (hz : bs.length ≤ sizeLine)
    (h : ∀ (s' : Shared) (zs : List (List Int × Addr)), zs.Perm bs → (zs.map (·.1)).Pairwise (· ≤ ·) → Inv X pins σ (upd H h'.objs.size (.lst (zs.map fun z => V.ref z.2))) s' → H h'.objs.size = none → Q (.ref h'.objs.size) s') :
    wpAny (model X.prog X.w) X.A.in1 (call (.builtin "list.sort") [.ref h'.objs.size]) (fun _ s' => Q (.ref h'.objs.size) s') X.xe { s with heap := h'.push { cls := .type "list", data := .seq (bs.map fun b => Value.ref b.2).toArray }, toks := tk } := by
  have kp : ∀ b o, s.heap.get? b = some o → (h'.push { cls := .type "list", data := .seq (bs.map fun b => Value.ref b.2).toArray }).get? b = some o := fun b o e => Heap.get?_push_of_some _ (hk b o e)
  have hf : H h'.objs.size = none := I.hok.fresh hlt
  refine list_sort_data (a := h'.objs.size) (n := 0) (vs := bs.map fun b => Value.ref b.2) (bs := bs) (enc := rowD) (R := fun v b => v = Value.ref b.2) (Heap.get?_push_size _ rfl) (refs_each bs) (reads_each I.hok kp hb)
    (AllAlike.of fun b b' => by show alikeAll _ _ = true; exact PySem.W.alike_ints _ _) (.inl fun d hd => ?_) hz (fun b _ => ?_) fun out hl eo => ?_
  · obtain ⟨b, hb', rfl⟩ := List.mem_map.mp hd
    obtain ⟨k, a⟩ := b
    cases k with
    | nil => exact absurd rfl (hne _ hb')
    | cons i k => exact ⟨.int i, k.map .int, rfl⟩
  · show X.A.units + 1 + 1 + (PyData.tuple (b.1.map .int)).depth < cLine
    have e : (PyData.tuple (b.1.map .int)).depth = 0 + 1 := by
      first
      | (simp only [PyData.depth, depth_ints])
      | (unfold PyData.depth; rw [depth_ints])
    omega
  · have e := each_refs (h := h') eo
    obtain ⟨c, hc⟩ := sortedHeap_at (out := out.toArray) (vs := bs.map fun b => Value.ref b.2) (n := 0) (h := h'.push { cls := .type "list", data := .seq (bs.map fun b => Value.ref b.2).toArray }) (a := h'.objs.size) (Heap.get?_push_size _ rfl)
    have pm : (bs.mergeSort (dataLe false rowD)).Perm bs := List.mergeSort_perm _ _
    refine h _ _ pm (rowD_sorted bs) (I.laid (t' := tk) (fun b o q => ?_) hlt ⟨?_, out, c, ?_, hc⟩) hf
    · have q1 := hk b o q
      have l1 := Heap.lt_size q1
      rw [sortedHeap_old (Nat.ne_of_lt l1) (by rw [size_push']; exact Nat.lt_succ_of_lt l1)]
      exact kp b o q
    · rw [List.length_map, pm.length_eq]; exact hz
    · rw [e]
      exact vals_of_refs2 _
theorem kdT_refs {kvs : List (List Int × V)} {xs : List (List Key × Addr × Value)} {H : Hp} (r : KT H (kvs.map fun kv => (kv.1.map Sum.inl, kv.2)) xs) : ∃ bs : List (List Int × Addr), bs.map (·.1) = kvs.map (·.1) ∧ bs.map (·.2) = xs.map (fun x => x.2.1) ∧ ∀ b ∈ bs, H b.2 = some (.tup (b.1.map V.int)) := by
  induction kvs generalizing xs with
  | nil => cases r; exact ⟨[], rfl, rfl, fun _ h => nomatch h⟩
  | cons kv kvs ih =>
    rw [List.map_cons] at r
    cases r with
    | @cons p q ps qs h t =>
      obtain ⟨bs, e1, e2, e3⟩ := ih t
      refine ⟨(kv.1, q.2.1) :: bs, by rw [List.map_cons, List.map_cons, e1], by rw [List.map_cons, List.map_cons, e2], fun b hb => ?_⟩
      rcases List.mem_cons.mp hb with rfl | hb
      · have := h.2.1
        rw [List.map_map] at this
        exact this
      · exact e3 b hb
/-- sorted(d), the keys of d tuples of ints -/
def rSortDT : List V → Hp → VK → Prop := fun xs H Q => ∃ (d : Addr) (kvs : List (List Int × V)), xs = [V.ref d] ∧ Rd H d (.dT (kvs.map fun kv => (kv.1.map Sum.inl, kv.2))) ∧ (∀ kv ∈ kvs, kv.1 ≠ []) ∧
  ∀ (p : Addr) (zs : List (List Int × Addr)), H p = none → (zs.map (·.1)).Perm (kvs.map (·.1)) → (zs.map (·.1)).Pairwise (· ≤ ·) → (∀ z ∈ zs, H z.2 = some (.tup (z.1.map V.int))) → Q (.ref p) (upd H p (.lst (zs.map fun z => V.ref z.2)))
theorem cr_sortDT (hc : X.calm = true) (hu : X.A.units + 64 < cLine) : CallR X (.builtin "sorted") rSortDT := by
  intro pins s σ H xs us Q I r h
  obtain ⟨d, kvs, rfl, hd, hne, q⟩ := h
  obtain rfl := Vals.ref1 r
  obtain ⟨z, hs, ks, pr, o, es, ep, ho, hx, hdt, he, hn⟩ := (show ObjOk X.prog X.w H s.heap d (.dT _) from hd.ok I.hok)
  obtain ⟨bs, b1, b2, b3⟩ := kdT_refs pr
  have l1 : es.size = ks.length := size_of_entries he
  have l2 := Paired.length pr
  have l3 : bs.length = ks.length := by have := congrArg List.length b2; simpa using this
  refine w_sortedOf (kdl_raw hs hx hdt) (I.ok.hd hc) ho (by omega) fun h' tk acc' kp hlt it => ?_
  have ea : acc'.toList = bs.map fun b => Value.ref b.2 := by
    have hl : acc'.toList.length = ks.length := by rw [Array.length_toList, it.1]; exact l1
    have e0 : (bs.map fun b => Value.ref b.2) = ks.map fun x => Value.ref x.2.1 := by
      have := congrArg (List.map Value.ref) b2
      rw [List.map_map, List.map_map] at this
      exact this
    rw [e0]
    apply List.ext_getElem?
    intro j
    rw [List.getElem?_map]
    cases hj : acc'.toList[j]? with
    | none =>
      have h1 := List.getElem?_eq_none_iff.mp hj
      rw [List.getElem?_eq_none (by omega)]
      all_goals rfl
    | some v =>
      obtain ⟨en, hen, hv⟩ := it.2 j v (by rw [← Array.getElem?_toList]; exact hj)
      have qe := entry_at he j
      rw [hen] at qe
      cases hb : ks[j]? with
      | none =>
        rw [hb] at qe
        exact nomatch (show some en = none from qe)
      | some b =>
        rw [hb] at qe
        have e2 : en = entryOfKey (tupleKind (mixKind X.prog X.w)) b := Option.some.inj qe
        rw [hv, e2]
        all_goals rfl
  rw [ea]
  have key : ∀ b ∈ bs, b.1 ≠ [] := fun b hb => by
    have : b.1 ∈ kvs.map (·.1) := by rw [← b1]; exact List.mem_map.mpr ⟨b, hb, rfl⟩
    obtain ⟨kv, hkv, e⟩ := List.mem_map.mp this
    rw [← e]; exact hne kv hkv
  refine w_sortRows I hu kp (Nat.le_of_lt hlt) bs b3 key (by omega) fun s' zs pm pw I' hf => ⟨.ref h'.objs.size, _, I', rfl, q _ zs hf ?_ pw fun c hc => b3 c (pm.mem_iff.mp hc)⟩
  rw [← b1]
  exact pm.map _
end
end WT
/-! What some positions come to, by going from one to the next: closed sets. -/
namespace WT
open PySem PySem.Spec PyProof.Rows L2 Evl
theorem every_120 {m : Nat} (h : m ≤ 5) : (everyN m m).length ≤ 120 := by
  have : m = 0 ∨ m = 1 ∨ m = 2 ∨ m = 3 ∨ m = 4 ∨ m = 5 := by omega
  rcases this with rfl | rfl | rfl | rfl | rfl | rfl <;> decide +kernel
theorem thn_inj {n : Nat} {u v s : List Nat} (hu : IsP n u) (hv : IsP n v) (hs : IsP n s) (e : thn u s = thn v s) : u = v := by
  have := congrArg (fun x => thn x (invN n s)) e
  simp only [thn_cancel_und hu hs, thn_cancel_und hv hs] at this
  exact this
/-- a finite lot that is closed under going on is what they come to -/
theorem closed_gen {n : Nat} {us fs : List (List Nat)} (hus : ∀ u ∈ us, IsP n u) (h1 : List.range n ∈ fs) (nd : fs.Nodup) (hg : ∀ f ∈ fs, Gen n (fun s => s ∈ us) f) (hc : ∀ f ∈ fs, ∀ u ∈ us, thn f u ∈ fs) (g : List Nat) : g ∈ fs ↔ Gen n (fun s => s ∈ us) g := by
  have hP : ∀ f ∈ fs, IsP n f := fun f hf => Gen.isP (fun s hs => hus s hs) (hg f hf)
  refine ⟨hg g, fun h => ?_⟩
  induction h with
  | one => exact h1
  | mul _ hs ih => exact hc _ ih _ hs
  | @div u s h hs ih =>
    have ps := hus s hs
    have nd2 : (fs.map fun f => thn f s).Nodup := by
      refine List.pairwise_map.mpr (List.Pairwise.imp_of_mem (fun {a b} ha hb hne e => hne (thn_inj (hP a ha) (hP b hb) ps e)) nd)
    have hm := subset_len nd2 (m := fs) (fun x hx => by
      obtain ⟨f, hf, rfl⟩ := List.mem_map.mp hx
      exact hc f hf s hs) (by rw [List.length_map]; exact Nat.le_refl _) u ih
    obtain ⟨f, hf, e⟩ := List.mem_map.mp hm
    have : thn u (invN n s) = f := by rw [← e]; exact thn_cancel_und (hP f hf) ps
    rw [this]
    exact hf
/-! a dict of positions -/
def kI (f : List Nat) : List Key := f.map fun x : Nat => (Sum.inl (x : Int) : Key)
def kT (f : List Nat) : List Key × V := (kI f, .bl true)
theorem kI_kV (f : List Nat) : (kI f).map kV = vN f := by
  unfold kI vN
  rw [List.map_map]
  rfl
theorem kI_inj {f g : List Nat} (h : kI f = kI g) : f = g := by
  unfold kI at h
  exact map_inj (fun x y e => by injection e with e; omega) h
theorem kT_get (fs : List (List Nat)) (g : List Nat) : (valV (fs.map kT) (kI g)).isSome = decide (g ∈ fs) := by
  induction fs with
  | nil => rfl
  | cons f fs ih =>
    rw [List.map_cons]
    by_cases e : f = g
    · subst e
      rw [valV_pos (show (kT f).1 = kI f from rfl)]
      simp
    · rw [valV_neg (fun z => e (kI_inj z)), ih]
      have : decide (g ∈ f :: fs) = decide (g ∈ fs) := by
        rw [decide_eq_decide, List.mem_cons]
        exact ⟨fun h => h.resolve_left (fun z => e z.symm), Or.inr⟩
      rw [this]
theorem kT_put {fs : List (List Nat)} {g : List Nat} (h : g ∉ fs) : putK (fs.map kT) (kI g) (.bl true) = (fs ++ [g]).map kT := by
  have hn : valV (fs.map kT) (kI g) = none := by
    have := kT_get fs g
    rw [decide_eq_false h] at this
    cases hv : valV (fs.map kT) (kI g) with
    | none => rfl
    | some _ =>
      rw [hv] at this
      cases this
  rw [putK_new _ hn, List.map_append]
  rfl
theorem tex_dT {H : Hp} {p : Addr} {kvs : List (List Key × V)} {o : HO} (h : H p = some (.dT kvs)) : TEx H (upd H p o) := fun a ys r => by
  rw [upd_ne (fun z => by rw [z, h] at r; cases r)]
  exact r
section
variable {K : PySem.W.Frag} {H : Hp} {σ : L2.St} {ta td : TE}
/-- a position in a dict of positions -/
theorem ev_dinF {q : Addr} {g : List Nat} {fs : List (List Nat)} (h : Ed K ta σ H (tN g)) (hd : Ev td σ H (.ref q)) (hq : H q = some (.dT (fs.map kT))) : Ev (tDNotIn ta td) σ H (.bl (!decide (g ∈ fs))) := fun H1 e Q kk => by
  refine h H1 e _ fun v H2 e2 f => hd H2 (e.trans e2) _ fun H3 e3 => ?_
  obtain ⟨b, rfl, hb⟩ := fz_tN.mp f
  refine ⟨q, _, rfl, DGet.t (k := kI g) (e3 _ _ ((e.trans e2) _ _ hq)) (by rw [kI_kV]; exact e3 _ _ hb), ?_⟩
  rw [kT_get]
  exact kk H3 (e2.trans e3)
end
end WT
/-! The greedy code is the least of all codes; all orders ascend; the least of data. -/
namespace WT
open PySem PySem.Spec PyProof.Rows L2 Evl
theorem ltN_app (a : List Nat) (x y : List Nat) : ltN (a ++ x) (a ++ y) = ltN x y := by
  induction a with
  | nil => rfl
  | cons b a ih =>
    rw [List.cons_append, List.cons_append, ltN_cons, ih]
    simp
theorem ltN_appL : ∀ {a b : List Nat} (x y : List Nat), a.length = b.length → ltN a b = true → ltN (a ++ x) (b ++ y) = true
  | [], [], _, _, _, h => by rw [ltN_nil] at h; cases h
  | [], _ :: _, _, _, h, _ => by simp at h
  | _ :: _, [], _, _, h, _ => by simp at h
  | a :: r, b :: s, x, y, hl, h => by
    rw [ltN_cons] at h
    rw [List.cons_append, List.cons_append, ltN_cons]
    simp only [Bool.or_eq_true, Bool.and_eq_true, decide_eq_true_eq] at h ⊢
    rcases h with h | ⟨h1, h2⟩
    · exact .inl h
    · exact .inr ⟨h1, ltN_appL x y (by simpa using hl) h2⟩
theorem coded_one {M : List (List Nat)} {o c c' : List Nat} (h : Coded M o c) (h' : Coded M o c') : c = c' := by
  induction h generalizing c' with
  | nil =>
    generalize he : ([] : List Nat) = e at h'
    cases h' with
    | nil => rfl
    | snoc p _ => simp at he
  | @snoc o c p h ih =>
    generalize he : o ++ [p] = e at h'
    cases h' with
    | nil => simp at he
    | @snoc o2 c2 p2 h2 =>
      obtain ⟨e1, e2⟩ := List.append_inj' he rfl
      subst e1
      simp at e2
      subst e2
      rw [ih h2]
theorem coded_lenE {M N : List (List Nat)} {o c : List Nat} (h : Coded M o c) : ∀ {o' c' : List Nat}, Coded N o' c' → o.length = o'.length → c.length = c'.length := by
  induction h with
  | nil =>
    intro o' c' h' hl
    cases h' with
    | nil => rfl
    | snoc p _ => simp at hl
  | @snoc o c p h ih =>
    intro o' c' h' hl
    cases h' with
    | nil => simp at hl
    | @snoc o2 c2 p2 h2 =>
      have hl2 : o.length = o2.length := by simpa using hl
      rw [List.length_append, List.length_append, tells_len, tells_len, ih h2 hl2, hl2]
theorem coded_snoc {M : List (List Nat)} {o c : List Nat} {p : Nat} (h : Coded M (o ++ [p]) c) : ∃ c1, Coded M o c1 ∧ c = c1 ++ tells M o p := by
  generalize he : o ++ [p] = e at h
  cases h with
  | nil => simp at he
  | @snoc o2 c2 p2 h2 =>
    obtain ⟨e1, e2⟩ := List.append_inj' he rfl
    subst e1
    simp at e2
    subst e2
    exact ⟨c2, h2, rfl⟩
/-- the code of the least orders is the least of all -/
theorem laps_least (k : Nat) (M : List (List Nat)) : ∀ t, t ≤ k → ∀ o c, Ord k t o → Coded M o c → ((laps k M t).1 = c ∧ o ∈ (laps k M t).2) ∨ ltN (laps k M t).1 c = true
  | 0, _, o, c, O, C => by
    have e : o = [] := List.length_eq_zero_iff.mp O.len
    subst e
    have := coded_one C .nil
    subst this
    exact .inl ⟨rfl, by simp [laps]⟩
  | t + 1, ht, o, c, O, C => by
    obtain ⟨a1, a2⟩ := laps_ok k M t (by omega)
    have hne : o ≠ [] := fun z => by
      have := O.len
      rw [z] at this
      simp at this
    have eo := List.dropLast_concat_getLast hne
    generalize o.getLast hne = p at eo
    generalize o.dropLast = o1 at eo
    subst eo
    obtain ⟨c1, C1, rfl⟩ := coded_snoc C
    have hnd := O.nd
    rw [List.nodup_append] at hnd
    have O1 : Ord k t o1 := ⟨by have := O.len; rw [List.length_append] at this; simpa using this, hnd.1, fun x hx => O.lt x (List.mem_append_left _ hx)⟩
    have hp : p < k := O.lt p (by simp)
    have hpo : p ∉ o1 := fun z => hnd.2.2 p z p (by simp) rfl
    obtain ⟨f, hf⟩ := List.exists_mem_of_ne_nil _ a1
    have hcl := coded_lenE C1 (a2 f hf).2 (by rw [O1.len, (a2 f hf).1.len])
    obtain ⟨m, h1, h2, h3⟩ := (scan_least (cand k M (laps k M t).2)).2 (cand_ne (M := M) (show t < k by omega))
    show ((laps k M t).1 ++ (scan (cand k M (laps k M t).2)).1.getD [] = c1 ++ tells M o1 p ∧ o1 ++ [p] ∈ (scan (cand k M (laps k M t).2)).2) ∨ ltN ((laps k M t).1 ++ (scan (cand k M (laps k M t).2)).1.getD []) (c1 ++ tells M o1 p) = true
    rw [h1, h3, Option.getD_some]
    rcases laps_least k M t (by omega) o1 c1 O1 C1 with ⟨e, hm⟩ | hlt
    · have hcand : (tells M o1 p, o1 ++ [p]) ∈ cand k M (laps k M t).2 := mem_cand.mpr ⟨o1, hm, p, hp, hpo, rfl⟩
      rcases h2.2 _ hcand with z | z
      · refine .inl ⟨by rw [e, ← z], List.mem_map.mpr ⟨_, List.mem_filter.mpr ⟨hcand, by simpa using z⟩, rfl⟩⟩
      · refine .inr ?_
        rw [e, ltN_app]
        exact z
    · exact .inr (ltN_appL _ _ hcl.symm hlt)
/-- all orders, ascending -/
theorem every_asc {k : Nat} : ∀ t, (everyN k t).Pairwise fun a b => ltN a b = true
  | 0 => by simp [everyN]
  | t + 1 => by
    have ih := every_asc (k := k) t
    have hlen : ∀ o ∈ everyN k t, o.length = t := fun o ho => (mem_every.mp ho).len
    show ((everyN k t).flatMap fun o => (rest k o).map fun x => o ++ [x]).Pairwise _
    have : ∀ os : List (List Nat), (∀ o ∈ os, o.length = t) → os.Pairwise (fun a b => ltN a b = true) → (os.flatMap fun o => (rest k o).map fun x => o ++ [x]).Pairwise fun a b => ltN a b = true := fun os => by
      induction os with
      | nil =>
        intro _ _
        simp
      | cons o os ihh =>
        intro hl pw
        obtain ⟨p1, p2⟩ := List.pairwise_cons.mp pw
        rw [List.flatMap_cons, List.pairwise_append]
        refine ⟨?_, ihh (fun a ha => hl a (List.mem_cons_of_mem _ ha)) p2, fun a ha b hb => ?_⟩
        · have hr : (rest k o).Pairwise (· < ·) := List.Pairwise.sublist List.filter_sublist List.pairwise_lt_range
          refine List.pairwise_map.mpr (hr.imp fun {a b} hab => ?_)
          rw [ltN_app, ltN_cons]
          simp [hab]
        · obtain ⟨p, _, rfl⟩ := List.mem_map.mp ha
          obtain ⟨o', ho', hb'⟩ := List.mem_flatMap.mp hb
          obtain ⟨p', _, rfl⟩ := List.mem_map.mp hb'
          exact ltN_appL _ _ (by rw [hl o List.mem_cons_self, hl o' (List.mem_cons_of_mem _ ho')]) (p1 o' ho')
    exact this _ hlen ih
/-- two ascending lists of the same -/
theorem asc_one : ∀ {a b : List (List Nat)}, a.Pairwise (fun x y => ltN x y = true) → b.Pairwise (fun x y => ltN y x = false) → b.Nodup → (∀ x, x ∈ a ↔ x ∈ b) → b = a
  | [], b, _, _, _, h => by
    cases b with
    | nil => rfl
    | cons y b => exact absurd ((h y).mpr List.mem_cons_self) (by simp)
  | x :: a, [], _, _, _, h => absurd ((h x).mp List.mem_cons_self) (by simp)
  | x :: a, y :: b, pa, pb, nb, h => by
    obtain ⟨a1, a2⟩ := List.pairwise_cons.mp pa
    obtain ⟨b1, b2⟩ := List.pairwise_cons.mp pb
    obtain ⟨n1, n2⟩ := List.nodup_cons.mp nb
    have e : y = x := by
      rcases List.mem_cons.mp ((h y).mpr List.mem_cons_self) with z | z
      · exact z
      · have h1 := a1 y z
        rcases List.mem_cons.mp ((h x).mp List.mem_cons_self) with w | w
        · exact w.symm
        · have h2 := b1 x w
          rw [h1] at h2
          cases h2
    subst e
    have hx : y ∉ a := fun z => by
      have := a1 y z
      rw [ltN_irr] at this
      cases this
    rw [asc_one a2 b2 n2 fun z => ?_]
    constructor
    · intro hz
      rcases List.mem_cons.mp ((h z).mp (List.mem_cons_of_mem _ hz)) with w | w
      · exact absurd (w ▸ hz) hx
      · exact w
    · intro hz
      rcases List.mem_cons.mp ((h z).mpr (List.mem_cons_of_mem _ hz)) with w | w
      · exact absurd (w ▸ hz) n1
      · exact w
theorem ltN_int (a b : List Nat) : decide ((a.map fun n : Nat => (n : Int)) < b.map fun n : Nat => (n : Int)) = ltN a b := by
  induction a generalizing b with
  | nil =>
    cases b with
    | nil => simp [ltN_nil]
    | cons b r => simp [ltN_nil_cons]
  | cons a r ih =>
    cases b with
    | nil => simp [ltN_nil]
    | cons b s =>
      rw [ltN_cons, ← ih s, List.map_cons, List.map_cons]
      simp only [List.cons_lt_cons_iff]
      by_cases h1 : a < b
      · have : (a : Int) < (b : Int) := by omega
        simp [h1, this]
      · have : ¬ (a : Int) < (b : Int) := by omega
        by_cases h2 : a = b
        · subst h2
          simp
        · have h3 : ¬ (a : Int) = (b : Int) := by omega
          simp [h1, this, h2, h3]
theorem dataLt_tN (a b : List Nat) : PySem.W.dataLt (tN a) (tN b) = ltN a b := by
  have e : ∀ c : List Nat, tN c = .tuple ((c.map fun n : Nat => (n : Int)).map PyData.int) := fun c => by
    unfold tN
    rw [List.map_map]
    rfl
  rw [e a, e b, PySem.W.dataLt_tuple]
  have := PySem.W.dataLt_ints (a.map fun n : Nat => (n : Int)) (b.map fun n : Nat => (n : Int))
  unfold PySem.W.rowLt at this
  rw [this, ltN_int]
/-- the least of data that go by an order -/
theorem minD_least {α : Type} (f : α → PyData) (lt : α → α → Bool) (hf : ∀ a b, PySem.W.dataLt (f a) (f b) = lt a b) (tr : ∀ {a b c}, lt a b = true → lt b c = true → lt a c = true) (tri : ∀ {a b}, lt a b = false → a = b ∨ lt b a = true) :
    ∀ (as : List α) (a : α), ∃ m ∈ a :: as, PySem.W.minD (f a) (as.map f) = f m ∧ ∀ y ∈ a :: as, y = m ∨ lt m y = true
  | [], a => ⟨a, List.mem_cons_self, rfl, fun y hy => .inl (List.mem_singleton.mp hy)⟩
  | b :: as, a => by
    have h : PySem.W.minD (f a) ((b :: as).map f) = PySem.W.minD (f (if lt b a = true then b else a)) (as.map f) := by
      show PySem.W.minD (if PySem.W.dataLt (f b) (f a) then f b else f a) (as.map f) = _
      rw [hf]
      split <;> rfl
    rw [h]
    obtain ⟨m, m1, m2, m3⟩ := minD_least f lt hf tr tri as (if lt b a = true then b else a)
    have hle : ∀ z, z = (if lt b a = true then b else a) ∨ lt (if lt b a = true then b else a) z = true → z = m ∨ lt m z = true := fun z hz => by
      rcases m3 _ List.mem_cons_self with w | w
      · rw [w] at hz
        exact hz
      · rcases hz with hz | hz
        · rw [hz]
          exact .inr w
        · exact .inr (tr w hz)
    refine ⟨m, ?_, m2, fun y hy => ?_⟩
    · rcases List.mem_cons.mp m1 with w | w
      · rw [w]
        split
        · exact List.mem_cons_of_mem _ List.mem_cons_self
        · exact List.mem_cons_self
      · exact List.mem_cons_of_mem _ (List.mem_cons_of_mem _ w)
    · rcases List.mem_cons.mp hy with w | w
      · refine hle y ?_
        rw [w]
        by_cases hb : lt b a = true
        · rw [if_pos hb]
          exact .inr hb
        · rw [if_neg hb]
          exact .inl rfl
      · rcases List.mem_cons.mp w with w | w
        · refine hle y ?_
          rw [w]
          by_cases hb : lt b a = true
          · rw [if_pos hb]
            exact .inl rfl
          · rw [if_neg hb]
            rcases tri (by simpa using hb) with z | z
            · exact .inl z
            · exact .inr z
        · exact m3 y (List.mem_cons_of_mem _ w)
end WT
/-! Codes of pictures, the least of all, how many are unlike. -/
namespace WT
open PySem PySem.Spec PyProof.Rows L2 Evl
/-- the code of a picture as it stands -/
def codeN (k : Nat) (M : List (List Nat)) : List Nat := (List.range k).flatMap fun p => tells M (List.range p) p
theorem code_coded (k : Nat) (M : List (List Nat)) : Coded M (List.range k) (codeN k M) := by
  unfold codeN
  induction k with
  | zero => exact .nil
  | succ k ih =>
    have e : (List.range (k + 1)).flatMap (fun p => tells M (List.range p) p) = ((List.range k).flatMap fun p => tells M (List.range p) p) ++ tells M (List.range k) k := by
      rw [List.range_succ, List.flatMap_append]
      simp
    rw [e, List.range_succ]
    exact .snoc k ih
theorem code_moved {k : Nat} {M : List (List Nat)} {q : List Nat} (hq : IsP k q) : Coded M (invN k q) (codeN k (movedN k M q)) := by
  have key : ∀ t, t ≤ k → Coded M ((List.range t).map fun x => q.idxOf x) ((List.range t).flatMap fun p => tells (movedN k M q) (List.range p) p) := fun t => by
    induction t with
    | zero => intro _; exact .nil
    | succ t ih =>
      intro ht
      have gd : ∀ x, x < k → q.getD (q.idxOf x) 0 = x := fun x hx => by
        rw [List.getD_eq_getElem?_getD, (idx_lt hq hx).2]
        rfl
      have e1 := tells_map (M := M) hq (o := (List.range t).map fun x => q.idxOf x) (p := q.idxOf t) (fun x hx => by
        obtain ⟨y, hy, rfl⟩ := List.mem_map.mp hx
        exact (idx_lt hq (by have := List.mem_range.mp hy; omega)).1) (idx_lt hq (by omega)).1
      have e2 : ((List.range t).map fun x => q.idxOf x).map (fun x => q.getD x 0) = List.range t := by
        rw [List.map_map]
        have : ((List.range t).map ((fun x => q.getD x 0) ∘ fun x => q.idxOf x)) = (List.range t).map id := List.map_congr_left fun x hx => gd x (by have := List.mem_range.mp hx; omega)
        rw [this, List.map_id]
      rw [e2, gd t (by omega)] at e1
      have e3 : (List.range (t + 1)).flatMap (fun p => tells (movedN k M q) (List.range p) p) = ((List.range t).flatMap fun p => tells (movedN k M q) (List.range p) p) ++ tells M ((List.range t).map fun x => q.idxOf x) (q.idxOf t) := by
        rw [List.range_succ, List.flatMap_append, ← e1]
        simp
      have e4 : (List.range (t + 1)).map (fun x => q.idxOf x) = ((List.range t).map fun x => q.idxOf x) ++ [q.idxOf t] := by
        rw [List.range_succ, List.map_append]
        rfl
      rw [e3, e4]
      exact .snoc _ (ih (by omega))
  exact key k (Nat.le_refl _)
theorem code_inj {k : Nat} {M N : List (List Nat)} (hM : Sq k M) (hN : Sq k N) (e : codeN k M = codeN k N) : M = N := by
  have O : Ord k k (List.range k) := ⟨List.length_range, List.nodup_range, fun x hx => List.mem_range.mp hx⟩
  have h := zip_moves hN O O (code_coded k M) (by rw [e]; exact code_coded k N)
  have z : zipPos k (List.range k) (List.range k) = List.range k := by
    refine (tab_of (f := fun x => (List.range k).getD ((List.range k).idxOf x) 0) List.length_range fun x hx => ?_).symm
    have h1 := (idx_lt (one_isP k) hx).2
    rw [List.getElem?_range hx, List.getD_eq_getElem?_getD, h1]
    rfl
  rw [z, moved_one hM] at h
  exact h
/-! ### the least of all pairs -/
def pairD (k : Nat) (M : List (List Nat)) (q : List Nat) : PyData := .tuple [tN (codeN k (movedN k M q)), tN q]
def pairLt (k : Nat) (M : List (List Nat)) (a b : List Nat) : Bool := ltN (codeN k (movedN k M a)) (codeN k (movedN k M b)) || (decide (codeN k (movedN k M a) = codeN k (movedN k M b)) && ltN a b)
theorem tN_alike (a b : List Nat) : PySem.W.alike (tN a) (tN b) = true := by
  have e : ∀ c : List Nat, tN c = .tuple ((c.map fun n : Nat => (n : Int)).map PyData.int) := fun c => by
    unfold tN
    rw [List.map_map]
    rfl
  rw [e a, e b]
  exact PySem.W.alike_ints _ _
theorem tN_eqv (a b : List Nat) : PyData.eqv (tN a) (tN b) = decide (a = b) := by
  by_cases h : a = b
  · subst h
    rw [eqv_yes (tN_plain _).1]
    simp
  · rw [eqv_no (tN_plain _).1 (tN_plain _).1 (fun z => h (tN_inj z))]
    simp [h]
theorem dataLt_pairD (k : Nat) (M : List (List Nat)) (a b : List Nat) : PySem.W.dataLt (pairD k M a) (pairD k M b) = pairLt k M a b := by
  unfold pairD pairLt
  rw [PySem.W.dataLt_pair (tN_alike _ _) (tN_alike _ _), tN_eqv, tN_eqv, dataLt_tN, dataLt_tN]
  by_cases h1 : codeN k (movedN k M a) = codeN k (movedN k M b)
  · rw [if_pos (decide_eq_true h1), h1, ltN_irr]
    by_cases h2 : a = b
    · subst h2
      simp [ltN_irr]
    · rw [if_neg (by simpa using h2)]
      simp
  · rw [if_neg (by simpa using h1)]
    simp [h1]
theorem pairLt_trans {k : Nat} {M : List (List Nat)} {a b c : List Nat} (h : pairLt k M a b = true) (g : pairLt k M b c = true) : pairLt k M a c = true := by
  unfold pairLt at *
  simp only [Bool.or_eq_true, Bool.and_eq_true, decide_eq_true_eq] at *
  rcases h with h | ⟨h1, h2⟩
  · rcases g with g | ⟨g1, g2⟩
    · exact .inl (ltN_trans h g)
    · exact .inl (g1 ▸ h)
  · rcases g with g | ⟨g1, g2⟩
    · exact .inl (h1 ▸ g)
    · exact .inr ⟨h1.trans g1, ltN_trans h2 g2⟩
theorem pairLt_tri {k : Nat} {M : List (List Nat)} {a b : List Nat} (h : pairLt k M a b = false) : a = b ∨ pairLt k M b a = true := by
  unfold pairLt at *
  simp only [Bool.or_eq_false_iff, Bool.and_eq_false_iff, decide_eq_false_iff_not, Bool.or_eq_true, Bool.and_eq_true, decide_eq_true_eq] at *
  obtain ⟨h1, h2⟩ := h
  rcases ltN_tri h1 with z | z
  · rcases h2 with w | w
    · exact absurd z w
    · rcases ltN_tri w with y | y
      · exact .inl y
      · exact .inr (.inr ⟨z.symm, y⟩)
  · exact .inr (.inl z)
/-- the least position of the least orders is the least of them -/
theorem leastPos_least (k : Nat) (M : List (List Nat)) : ∃ o ∈ (laps k M k).2, leastPos k M = invN k o ∧ ∀ o' ∈ (laps k M k).2, invN k o' = leastPos k M ∨ ltN (leastPos k M) (invN k o') = true := by
  obtain ⟨l1, l2⟩ := laps_ok k M k (Nat.le_refl _)
  have hD := (least_ok k M).1
  have hL : ∃ o os, (laps k M k).2 = o :: os ∧ leastD k M = PySem.W.minD (tN (invN k o)) (os.map fun o => tN (invN k o)) := by
    unfold leastD
    split
    · rename_i h
      exact absurd h l1
    · rename_i o os h
      exact ⟨o, os, h, rfl⟩
  obtain ⟨o, os, h, e⟩ := hL
  obtain ⟨m, m1, m2, m3⟩ := minD_least tN ltN dataLt_tN ltN_trans ltN_tri (os.map (invN k)) (invN k o)
  rw [List.map_map] at m2
  have e2 : leastD k M = tN m := e.trans m2
  rw [hD] at e2
  have em := tN_inj e2
  rw [em, h]
  have mm : m ∈ (o :: os).map (invN k) := m1
  obtain ⟨o1, ho1, e1⟩ := List.mem_map.mp mm
  refine ⟨o1, ho1, e1.symm, fun o' ho' => m3 _ ?_⟩
  show invN k o' ∈ (o :: os).map (invN k)
  exact List.mem_map.mpr ⟨o', ho', rfl⟩
theorem min_pairs {k : Nat} {M : List (List Nat)} {q0 : List Nat} {qs : List (List Nat)} (h : everyN k k = q0 :: qs) : PySem.W.minD (pairD k M q0) (qs.map (pairD k M)) = pairD k M (leastPos k M) := by
  obtain ⟨m, m1, m2, m3⟩ := minD_least (pairD k M) (pairLt k M) (dataLt_pairD k M) pairLt_trans pairLt_tri qs q0
  rw [m2]
  rw [← h] at m1 m3
  obtain ⟨o, ho, eo, hl⟩ := leastPos_least k M
  obtain ⟨l1, l2⟩ := laps_ok k M k (Nat.le_refl _)
  have pm := every_isP.mp m1
  have pq := (least_ok k M).2
  have cm := code_moved (M := M) pm
  have cq := code_moved (M := M) pq
  have eq1 : invN k (leastPos k M) = o := by
    rw [eo]
    exact und_und (ord_perm (l2 o ho).1)
  rw [eq1] at cq
  have ecq := coded_one cq (l2 o ho).2
  have Om : Ord k k (invN k m) := ⟨isP_len (und_isP pm), perm_nd (und_isP pm), fun x hx => List.mem_range.mp ((und_isP pm).subset hx)⟩
  have hm := laps_least k M k (Nat.le_refl _) _ _ Om cm
  have : m = leastPos k M := by
    rcases m3 (leastPos k M) (every_isP.mpr pq) with z | z
    · exact z.symm
    · unfold pairLt at z
      rw [ecq] at z
      simp only [Bool.or_eq_true, Bool.and_eq_true, decide_eq_true_eq] at z
      rcases z with z | ⟨z1, z2⟩
      · rcases hm with ⟨w, _⟩ | w
        · rw [w, ltN_irr] at z
          cases z
        · have := ltN_trans z w
          rw [ltN_irr] at this
          cases this
      · rcases hm with ⟨_, w⟩ | w
        · rcases hl _ w with y | y
          · rw [und_und pm] at y
            exact y
          · rw [und_und pm] at y
            have := ltN_trans z2 y
            rw [ltN_irr] at this
            cases this
        · rw [z1, ltN_irr] at w
          cases w
  rw [this]
/-! ### how many are unlike -/
theorem fiber_count {α β : Type} [DecidableEq β] (f : α → β) (n : Nat) : ∀ (ds : List β) (l : List α), ds.Nodup → (∀ x ∈ l, f x ∈ ds) → (∀ d ∈ ds, (l.filter fun x => decide (f x = d)).length = n) → ds.length * n = l.length
  | [], l, _, h, _ => by
    cases l with
    | nil => simp
    | cons x l => exact absurd (h x List.mem_cons_self) (by simp)
  | d :: ds, l, nd, h, hn => by
    obtain ⟨n1, n2⟩ := List.nodup_cons.mp nd
    have ih := fiber_count f n ds (l.filter fun x => !decide (f x = d)) n2 (fun x hx => by
      obtain ⟨h1, h2⟩ := List.mem_filter.mp hx
      rcases List.mem_cons.mp (h x h1) with z | z
      · rw [z] at h2
        simp at h2
      · exact z) fun d' hd' => by
      rw [List.filter_filter]
      rw [← hn d' (List.mem_cons_of_mem _ hd')]
      congr 1
      refine List.filter_congr fun x _ => ?_
      by_cases e : f x = d'
      · have : ¬ f x = d := fun z => n1 (by rw [← z, e]; exact hd')
        simp [e]
        exact fun z => n1 (z ▸ hd')
      · simp [e]
    have h1 := hn d List.mem_cons_self
    have h2 : l.length = (l.filter fun x => decide (f x = d)).length + (l.filter fun x => !decide (f x = d)).length := by
      clear ih h hn h1
      induction l with
      | nil => rfl
      | cons x l ihl =>
        rw [List.filter_cons, List.filter_cons, List.length_cons, ihl]
        by_cases e : f x = d
        · simp [e]
          omega
        · simp [e]
          omega
    rw [List.length_cons, Nat.add_mul, Nat.one_mul, ih, h2, h1]
    omega
theorem unlike_count {k : Nat} {M : List (List Nat)} (hM : Sq k M) {ds : List (List Nat)} (nd : ds.Nodup) (hd : ∀ d, d ∈ ds ↔ ∃ q ∈ everyN k k, d = codeN k (movedN k M q)) : ds.length * (keptN k M).length = (everyN k k).length := by
  refine fiber_count (fun q => codeN k (movedN k M q)) _ ds _ nd (fun q hq => (hd _).mpr ⟨q, hq, rfl⟩) fun d hdm => ?_
  obtain ⟨q0, hq0, rfl⟩ := (hd d).mp hdm
  have p0 := every_isP.mp hq0
  have nd1 : ((keptN k M).map fun g => thn g q0).Nodup := List.pairwise_map.mpr (List.Pairwise.imp_of_mem (fun {a b} ha hb hne e => hne (thn_inj (mem_kept.mp ha).1 (mem_kept.mp hb).1 p0 e)) (kept_nd k M))
  have nd2 : ((everyN k k).filter fun q => decide (codeN k (movedN k M q) = codeN k (movedN k M q0))).Nodup := List.Nodup.sublist List.filter_sublist (every_nd k)
  have hp := (List.perm_ext_iff_of_nodup nd2 nd1).mpr fun q => by
    rw [List.mem_filter, every_isP, decide_eq_true_eq, List.mem_map]
    constructor
    · rintro ⟨pq, e⟩
      have e1 : movedN k M q = movedN k M q0 := code_inj moved_sq moved_sq e
      refine ⟨thn q (invN k q0), mem_kept.mpr ⟨thn_isP pq (und_isP p0), ?_⟩, thn_und_cancel pq p0⟩
      rw [moved_thn pq (und_isP p0), e1, ← moved_thn p0 (und_isP p0), thn_und p0, moved_one hM]
    · rintro ⟨g, hg, rfl⟩
      obtain ⟨pg, eg⟩ := mem_kept.mp hg
      exact ⟨thn_isP pg p0, by rw [moved_thn pg p0, eg]⟩
  rw [hp.length_eq, List.length_map]
end WT
/-! The law's own helpers. -/
namespace WT
open PySem PySem.Spec PyProof.Rows L2 Evl
abbrev s_law_then : Stmt := top 34
abbrev N_law_then : List Str := ["one", "other", "place"]
theorem sc_law_then : FnScope N_law_then ["one", "other"] (defScope s_law_then) := ⟨rfl, rfl, rfl, by decide +kernel, rfl, by decide +kernel, by decide +kernel⟩
section
variable {P : Program} {w : World} {K : PySem.W.Frag} {mg : Str → Option Value} {base : Heap}
theorem ok_law_then (B : Bt mg) (d : DefIn K mg "_law_then" ["one", "other"] s_law_then) : Okd P w K mg base "_law_then" ["one", "other"] s_law_then 1 (spD K 2 rThen) := by
  refine Okd.mk d sc_law_then (fun vs H Q E h => spD_len h) (fun f cdv A outer s H vs Q E hr h => ?_)
  obtain ⟨as, d, _, hv, ⟨n, p, q, rfl, hn, hp, hq, rfl⟩, k⟩ := h
  obtain ⟨y, z, rfl, hy, hz⟩ := agl2 hv
  replace hy := agd hy
  replace hz := agd hz
  have hl := isP_len hp
  refine ⟨_, (pss_one (ps_ret (pe_callTy call_tuple_of (by rfl) B.tuple boot_tuple (pa_cons (pe_lc (own := [("place", 2)]) rfl sc_law_then.nd (pi_tup (pv 0)) (blkOk_by (own := [("place", 2)]) (N := N_law_then) (sc := defScope s_law_then) (by decide +kernel)) (fun _ _ _ _ _ => pg_name (i := 2) sc_law_then.nd rfl (Or.inl rfl)) (fun _ _ _ _ _ => pts_nil) (fun _ _ _ _ _ => (pe_ix (xK (K := K) (r := rIxT) ix_tup rfl) (pv 1) (pv 2) (fun _ _ => rfl)))) pa_nil)))), ?_⟩
  refine s_retD (ed_tupOf (el_mapT (es := (thn p q).map fun n : Nat => PyData.int (n : Int)) (ed_var rfl hy) (by rw [List.length_map]; omega) (by rw [List.length_map, List.length_map, thn_len]) (fun _ => rfl) fun i x d e H1 e1 hd he f => ?_)) fun v H1 e1 f => k v H1 e1 f
  obtain ⟨a, ha, rfl⟩ := tN_get hd
  obtain ⟨b, hb, rfl⟩ := tN_get he
  have hx := fz_intI f
  subst hx
  have ham := perm_lt hp ha
  have hil := (List.getElem?_eq_some_iff.mp ha).1
  have eb : b = ap q a := by
    have h1 := ap_thn (v := q) hil
    rw [ap_of hb, ap_of ha] at h1
    exact h1
  subst eb
  exact ed_ixT (ed_var rfl (fz_ex e1 hz)) (ev_var rfl) (rNs_get (ap_get (by rw [isP_len hq]; exact ham)))
end
abbrev s_law_code : Stmt := top 38
abbrev N_law_code : List Str := ["picture", "found", "place", "other"]
theorem sc_law_code : FnScope N_law_code ["picture"] (defScope s_law_code) := ⟨rfl, rfl, rfl, by decide +kernel, rfl, by decide +kernel, by decide +kernel⟩
def rCodeN (as : List Ag) (d : PyData) : Prop := ∃ (k : Nat) (M : List (List Nat)), as = [.d (tNN M)] ∧ Sq k M ∧ k ≤ 5 ∧ d = tN (codeN k M)
section
variable {P : Program} {w : World} {K : PySem.W.Frag} {mg : Str → Option Value} {base : Heap}
theorem ok_law_code (B : Bt mg) (d : DefIn K mg "_law_code" ["picture"] s_law_code) : Okd P w K mg base "_law_code" ["picture"] s_law_code 1 (spD K 1 rCodeN) := by
  refine Okd.mk d sc_law_code (fun vs H Q E h => spD_len h) (fun f cdv A outer s H vs Q E hr h => ?_)
  obtain ⟨as, d, _, hv, ⟨m, M, rfl, hM, hm, rfl⟩, k⟩ := h
  obtain ⟨y, rfl, hy⟩ := agl1 hv
  replace hy := agd hy
  refine ⟨_, (pss_cons (ps_set (i := 1) sc_law_code.nd rfl (Or.inl rfl) (pe_lst pa_nil))
      (pss_cons (ps_for PassesOwn.never rfl (pi_range1 (by rfl) B.range (pa_cons (pe_callB call_len_seq (by rfl) B.len boot_len (pa_cons (pv 0) pa_nil)) pa_nil)) (pg_name (i := 2) sc_law_code.nd rfl (Or.inl rfl)) (pss_cons (ps_for PassesOwn.never rfl (pi_range1 (by rfl) B.range (pa_cons (pv 2) pa_nil)) (pg_name (i := 3) sc_law_code.nd rfl (Or.inl rfl)) (pss_one (ps_expr (pe_bm PySem.F.plainAttrs_list PySem.F.slot_list_extend PySem.F.type_list_extend mt_extend (pv 1) (pa_cons (pe_lst (pa_cons (pe_ix ix_tup (pe_ix ix_tup (pv 0) (pv 2) (fun _ _ => rfl)) (pv 3) (fun _ _ => rfl)) (pa_cons (pe_ix ix_tup (pe_ix ix_tup (pv 0) (pv 3) (fun _ _ => rfl)) (pv 2) (fun _ _ => rfl)) pa_nil))) pa_nil)))))
        (pss_one (ps_expr (pe_bm PySem.F.plainAttrs_list PySem.F.slot_list_append PySem.F.type_list_append mt_append (pv 1) (pa_cons (pe_ix ix_tup (pe_ix ix_tup (pv 0) (pv 2) (fun _ _ => rfl)) (pv 2) (fun _ _ => rfl)) pa_nil))))))
      (pss_one (ps_ret (pe_callTy call_tuple_of (by rfl) B.tuple boot_tuple (pa_cons (pv 1) pa_nil)))))), ?_⟩
  refine q_asgL (Evl.el_lst Evl.ea_nil (by decide)) fun l H1 hl e1 h1 => ?_
  have hlen : ∀ {σ : L2.St} {H1 : Hp}, Ex H H1 → σ[0]? = some (some y) → Ev (tCB (rLenS K) (tCons (tVar 0) tNil)) σ H1 (.int (m : Int)) := fun e h0 => ev_is (ev_lenT (ed_var h0 (fz_ex e hy))) (by rw [List.length_map, hM.len])
  have hb1 : ∀ (i : Nat), ((List.range i).flatMap fun p => tells M (List.range p) p).length ≤ i * (2 * i + 1) := fun i => by
    rw [List.length_flatMap]
    have h : ∀ l : List Nat, (∀ p ∈ l, p ≤ i) → (l.map fun p => (tells M (List.range p) p).length).sum ≤ l.length * (2 * i + 1) := fun l => by
      induction l with
      | nil =>
        intro _
        exact Nat.zero_le _
      | cons p l ih =>
        intro h
        rw [List.map_cons, List.sum_cons, List.length_cons, tells_len, List.length_range, Nat.add_mul, Nat.one_mul]
        have := ih fun x hx => h x (List.mem_cons_of_mem _ hx)
        have := h p List.mem_cons_self
        omega
    have h2 := h (List.range i) fun p hp => Nat.le_of_lt (List.mem_range.mp hp)
    rw [List.length_range] at h2
    exact h2
  have hb2 : ∀ (p j : Nat), ((List.range j).flatMap fun c => [at2 M p c, at2 M c p]).length = 2 * j := fun p j => by
    rw [List.length_flatMap]
    have : ((List.range j).map fun c => ([at2 M p c, at2 M c p] : List Nat).length) = List.replicate j 2 := by
      rw [List.eq_replicate_iff]
      exact ⟨by simp, fun b hb => by obtain ⟨a, _, rfl⟩ := List.mem_map.mp hb; rfl⟩
    rw [this, List.sum_replicate_nat]
    omega
  refine q_forR1 (n := (m : Int)) (Evl.ea_cons (hlen e1 rfl) Evl.ea_nil) ⟨by omega, by omega⟩ (fun i σ' H' => (∃ z2 z3, σ' = [some y, some (.ref l), z2, z3]) ∧ Ex H H' ∧ H' l = some (.lst (vN ((List.range i).flatMap fun p => tells M (List.range p) p)))) (fun H2 e2 => ⟨⟨none, none, rfl⟩, e1.trans e2, e2 _ _ h1⟩) (fun i σ' H' hi h => ?_) (fun σ' H' h => ?_)
  · obtain ⟨⟨z2, z3, rfl⟩, eX, hL⟩ := h
    have him : i < m := by omega
    have hbi := hb1 i
    have hbi2 : i * (2 * i + 1) ≤ 5 * 11 := Nat.mul_le_mul (by omega) (by omega)
    refine q_forR1 (n := (i : Int)) (Evl.ea_cons (ev_var rfl) Evl.ea_nil) ⟨by omega, by omega⟩ (fun j σ' H' => (∃ z3, σ' = [some y, some (.ref l), some (.int (i : Int)), z3]) ∧ Ex H H' ∧ H' l = some (.lst (vN (((List.range i).flatMap fun p => tells M (List.range p) p) ++ (List.range j).flatMap fun c => [at2 M i c, at2 M c i])))) (fun H2 e2 => ⟨⟨z3, rfl⟩, eX.trans e2, by simpa using e2 _ _ hL⟩) (fun j σ' H2 hj h => ?_) (fun σ' H2 h => ?_)
    · obtain ⟨⟨z3, rfl⟩, eY, hL2⟩ := h
      have hji : j < i := by omega
      have hy' := fz_ex eY hy
      have hbj := hb2 i j
      refine s_extE (K := K) (ds := [.int ((at2 M i j : Nat) : Int), .int ((at2 M j i : Nat) : Int)]) hL2 (ev_var rfl) (WT.el_lst (ea_d (ed_at2 hM (ed_var rfl hy') (ev_var rfl) (ev_var rfl) him (by omega)) (ea_d (ed_at2 hM (ed_var rfl hy') (ev_var rfl) (ev_var rfl) (by omega) him) ea_nil)) (show 2 ≤ 100000 by decide)) (by rw [vN_len, List.length_append]; show _ + 2 ≤ _; omega) fun zs H3 e3 f => ?_
      have hzs : zs = vN [at2 M i j, at2 M j i] := fzl_nats.mp f
      subst hzs
      refine ⟨⟨_, rfl⟩, (eY.trans e3).mut hl, ?_⟩
      rw [List.range_succ, List.flatMap_append, ← List.append_assoc]
      unfold vN
      rw [List.map_append (l₁ := ((List.range i).flatMap fun p => tells M (List.range p) p) ++ _)]
      simp only [List.flatMap_cons, List.flatMap_nil, List.append_nil]
      exact upd_same
    · obtain ⟨⟨z3, rfl⟩, eY, hL2⟩ := h
      rw [Int.toNat_natCast] at hL2
      have hbj := hb2 i i
      refine s_app (v := .int ((at2 M i i : Nat) : Int)) hL2 (ev_var rfl) (ev_int (ed_at2 hM (ed_var rfl (fz_ex eY hy)) (ev_var rfl) (ev_var rfl) him him)) (by rw [vN_len, List.length_append]; omega) fun H3 e3 => ⟨⟨_, _, rfl⟩, (eY.trans e3).mut hl, ?_⟩
      have e : (List.range (i + 1)).flatMap (fun p => tells M (List.range p) p) = (((List.range i).flatMap fun p => tells M (List.range p) p) ++ (List.range i).flatMap fun c => [at2 M i c, at2 M c i]) ++ [at2 M i i] := by
        rw [List.range_succ, List.flatMap_append, List.append_assoc]
        simp [tells]
      rw [e]
      unfold vN
      rw [List.map_append (l₂ := [at2 M i i])]
      exact upd_same
  · obtain ⟨⟨z2, z3, rfl⟩, eX, hL⟩ := h
    rw [Int.toNat_natCast] at hL
    exact s_retD (ed_tupOfL (ev_var rfl) (sq_of hL) (fzl_nats.mpr rfl)) fun v H3 e3 f => k v H3 (eX.trans e3) f
end
end WT
/-! All that is come to. -/
namespace WT
open PySem PySem.Spec PyProof.Rows L2 Evl
abbrev s_law_all : Stmt := top 35
abbrev N_law_all : List Str := ["many", "turns", "most", "found", "waiting", "here", "position", "later"]
theorem sc_law_all : FnScope N_law_all ["many", "turns", "most"] (defScope s_law_all) := ⟨rfl, rfl, rfl, by decide +kernel, rfl, by decide +kernel, by decide +kernel⟩
section
variable {P : Program} {w : World} {K : PySem.W.Frag} {mg : Str → Option Value} {base : Heap}
/-- {position: True} of all that are come to -/
def spAll (K : PySem.W.Frag) : Sp := fun vs H Q _ => ∃ (m : Nat) (us : List (List Nat)) (l : Addr) (xs : List V), vs = [.int (m : Int), .ref l, .int 120] ∧ m ≤ 5 ∧ (∀ u ∈ us, IsP m u) ∧ H l = some (.lst xs) ∧ FzL K H (us.map tN) xs ∧
  ∀ (d : Addr) (fs : List (List Nat)) (H1 : Hp), H d = none → Ex H H1 → H1 d = some (.dT (fs.map kT)) → fs.Nodup → (∀ g, g ∈ fs ↔ Gen m (fun s => s ∈ us) g) → Q (.ref d) H1
theorem ok_law_all (B : Bt mg) (o_law_then : Okd P w K mg base "_law_then" ["one", "other"] s_law_then 1 (spD K 2 rThen)) (d : DefIn K mg "_law_all" ["many", "turns", "most"] s_law_all) : Okd P w K mg base "_law_all" ["many", "turns", "most"] s_law_all 2 (spAll K) := by
  refine Okd.mk d sc_law_all (fun vs H Q E h => ?_) (fun f cdv A outer s H vs Q E hr h => ?_)
  · obtain ⟨m, us, l, xs, rfl, _⟩ := h
    rfl
  obtain ⟨m, us, l, xs, rfl, hm, hus, hl, fx, k⟩ := h
  refine ⟨_, (pss_cons (ps_par (i := 3) (j := 4) (by rfl) sc_law_all.nd rfl rfl (by decide) rfl rfl (pa_cons (pe_disp1T (room1 hr) (pe_tupRg rfl (by rfl) B.tuple (prg_1 (by rfl) B.range (pv 0))) pe_bl) (pa_cons (pe_lst (pa_cons (pe_tupRg rfl (by rfl) B.tuple (prg_1 (by rfl) B.range (pv 0))) pa_nil)) pa_nil)) (by rfl))
      (pss_cons (ps_while PassesOwn.never (pt_cmpR (op_neD (room64 hr)) (pv 4) (pe_lst pa_nil) (nomark _)) (pss_cons (ps_set (i := 5) sc_law_all.nd rfl (Or.inl rfl) (pe_bm0 PySem.F.plainAttrs_list PySem.F.slot_list_pop PySem.F.type_list_pop mt_pop (pv 4)))
        (pss_cons (ps_for PassesOwn.never rfl (pi_list (pv 1)) (pg_name (i := 6) sc_law_all.nd rfl (Or.inl rfl)) (pss_cons (ps_set (i := 7) sc_law_all.nd rfl (Or.inl rfl) (pe_fn o_law_then (hr.mono (by decide)) (pa_cons (pv 5) (pa_cons (pv 6) pa_nil))))
          (pss_one (ps_if (pt_cmp (pc_dnotin (room1 hr) (pv 7) (pv 3)) (by rfl)) (pss_cons (ps_asg pe_bl (pg_sub (pv 3) (pv 7) (set_dict (room1 hr))))
            (pss_one (ps_expr (pe_bm PySem.F.plainAttrs_list PySem.F.slot_list_append PySem.F.type_list_append mt_append (pv 4) (pa_cons (pv 7) pa_nil))))) pss_nil))))
        (pss_one (ps_if (pt_cmpR op_gt (pe_callB call_len_dT (by rfl) B.len boot_len (pa_cons (pv 3) pa_nil)) (pv 2) (nomark _)) (pss_one (ps_ret pe_non)) pss_nil)))))
      (pss_one (ps_ret (pv 3))))), ?_⟩
  have h120 := every_120 hm
  refine q_parM (c_cons ?_)
  refine fun p hp => ed_tupRg (K := K) (ev_var rfl) (by omega) (upd H p (.dT [])) (Ex.new hp) _ fun v1 H1 e1 f1 => ev_c H1 (Ex.refl _) _ fun H2 e2 => ?_
  obtain ⟨b, rfl, hb⟩ := fz_tN.mp f1
  refine ⟨e2 _ _ (e1 _ _ upd_same), kI (List.range m), b, rfl, by rw [kI_kV]; exact e2 _ _ hb, ?_⟩
  have e02 : Ex H (upd H2 p (.dT [(kI (List.range m), V.bl true)])) := (((Ex.new hp).trans e1).trans e2).mut hp
  have hd3 : upd H2 p (.dT [(kI (List.range m), V.bl true)]) p = some (.dT ([List.range m].map kT)) := upd_same
  generalize upd H2 p (.dT [(kI (List.range m), V.bl true)]) = H3 at e02 hd3
  refine c_cons (WT.el_lst (K := K) (ds := [tN (List.range m)]) (ea_d (ed_tupRg (n := m) (ev_var rfl) (by omega)) ea_nil) (show 1 ≤ 100000 by decide) H3 (Ex.refl _) _ fun q wx H4 hq e4 hw fw => c_nil ⟨_, _, rfl, ?_⟩)
  have hq0 : H q = none := fresh_back e02 hq
  have npq : q ≠ p := fun z => by rw [z, hd3] at hq; cases hq
  have nlp : l ≠ p := fun z => by rw [← z, hl] at hp; cases hp
  have nlq : l ≠ q := fun z => by rw [← z, hl] at hq0; cases hq0
  -- what stands
  let St : List (List Nat) → List (List Nat) → Hp → Prop := fun fs ws H' => Ex H H' ∧ H' p = some (.dT (fs.map kT)) ∧ (∃ wx, H' q = some (.lst wx) ∧ FzL K H' (ws.map tN) wx) ∧ fs.Nodup ∧ ws.Nodup ∧ (∀ x ∈ ws, x ∈ fs) ∧ (∀ x ∈ fs, Gen m (fun s => s ∈ us) x) ∧ List.range m ∈ fs
  have Stex : ∀ {fs ws : List (List Nat)} {H' H'' : Hp}, St fs ws H' → Ex H' H'' → St fs ws H'' := fun ⟨s1, s2, ⟨wx, s3, s4⟩, s5⟩ e => ⟨s1.trans e, e _ _ s2, ⟨wx, e _ _ s3, fzl_ex e s4⟩, s5⟩
  have hGP : ∀ {x : List Nat}, Gen m (fun s => s ∈ us) x → IsP m x := fun h => Gen.isP (fun s hs => hus s hs) h
  have hle : ∀ {fs ws : List (List Nat)} {H' : Hp}, St fs ws H' → fs.length ≤ 120 ∧ ws.length ≤ 120 := fun ⟨s1, s2, s3, s4, s5, s6, s7, s8⟩ => by
    have a1 := nodup_le s4 (m := everyN m m) fun x hx => every_isP.mpr (hGP (s7 x hx))
    have a2 := nodup_le s5 s6
    omega
  let σ0 : Option V → Option V → Option V → L2.St := fun z5 z6 z7 => [some (.int (m : Int)), some (.ref l), some (.int 120), some (.ref p), some (.ref q), z5, z6, z7]
  refine q_while (fun t σ' H' => ∃ fs ws z5 z6 z7, σ' = σ0 z5 z6 z7 ∧ t = 2 * (120 - fs.length) + ws.length ∧ St fs ws H' ∧ ∀ x ∈ fs, x ∉ ws → ∀ u ∈ us, thn x u ∈ fs) _ ⟨[List.range m], [List.range m], none, none, none, rfl, rfl, ⟨e02.trans e4, e4 _ _ hd3, ⟨wx, hw, fw⟩, by simp, by simp, fun x hx => hx, fun x hx => by rw [List.mem_singleton.mp hx]; exact .one, by simp⟩, fun x h1 h2 => absurd h1 h2⟩ (fun t σ' H' h => ?_)
  obtain ⟨fs, ws, z5, z6, z7, rfl, ht, hS, hcl⟩ := h
  have hS0 := hS
  obtain ⟨s1, s2, ⟨wx, s3, s4⟩, s5, s6, s7, s8, s9⟩ := hS
  have hlen := hle hS0
  refine ⟨!(ws.map tN).isEmpty, et_test (ev_neNil (n := 1) (ev_var rfl) (sq_of s3) s4 (fun d hd => by obtain ⟨x, _, rfl⟩ := List.mem_map.mp hd; exact tN_plain x) (by decide)), fun hb H5 e5 => ?_, fun hb H5 e5 => ?_⟩
  · have hW : ws ≠ [] := fun z => by
      subst z
      cases hb
    have eW := List.dropLast_concat_getLast hW
    generalize hx0 : ws.getLast hW = x at eW
    generalize hW1 : ws.dropLast = W1 at eW
    have hWl : ws.length = W1.length + 1 := by
      rw [← eW]
      simp
    refine ⟨fun σ2 H2 => ∃ fs' ws' z5 z6 z7, σ2 = σ0 z5 z6 z7 ∧ 2 * (120 - fs'.length) + ws'.length < t ∧ St fs' ws' H2 ∧ ∀ x ∈ fs', x ∉ ws' → ∀ u ∈ us, thn x u ∈ fs', fun σ2 H2 hN => ?_, ?_⟩
    · obtain ⟨fs', ws', a5, a6, a7, h1, h2, h3, h4⟩ := hN
      exact ⟨_, h2, fs', ws', a5, a6, a7, h1, rfl, h3, h4⟩
    -- here = waiting.pop()
    refine q_asgM (c_bm0 ?_)
    have hwl := fzl_len s4
    rw [List.length_map] at hwl
    obtain ⟨vx, hvx, fvx⟩ := fzl_get s4 (i := W1.length) (d := tN x) (by rw [← eW]; simp)
    refine ev_var (v := .ref q) rfl H5 (Ex.refl _) _ fun H6 e6 => ⟨Or.inl ⟨rfl, _, sq_of (e6 _ _ (e5 _ _ s3))⟩, q, wx, vx, rfl, rfl, e6 _ _ (e5 _ _ s3), ?_, ?_⟩
    · rw [show wx.length - 1 = W1.length by omega]
      exact hvx
    have e56 := e5.trans e6
    have w6 := e56 _ _ s3
    generalize hG : upd H6 q (.lst wx.dropLast) = G
    have txG : TEx H6 G := by
      rw [← hG]
      exact tex_lst w6
    have hxf : x ∈ fs := s7 x (by rw [← eW]; simp)
    have hxW : x ∉ W1 := by
      have := s6
      rw [← eW, List.nodup_append] at this
      exact fun h => this.2.2 x h x (by simp) rfl
    have hdl : wx.dropLast = wx.take W1.length := by
      rw [List.dropLast_eq_take, show wx.length - 1 = W1.length by omega]
    have fd : FzL K G (W1.map tN) wx.dropLast := by
      have := fzl_take W1.length (FzL.mono txG _ _ (fzl_ex e56 s4))
      rw [hdl]
      rw [← List.map_take, ← eW, List.take_left] at this
      exact this
    have SG : St fs W1 G := by
      refine ⟨?_, ?_, ⟨_, ?_, fd⟩, s5, ?_, fun y hy => s7 y (by rw [← eW]; exact List.mem_append_left _ hy), s8, s9⟩
      · rw [← hG]
        exact (s1.trans e56).mut hq0
      · rw [← hG, upd_ne (Ne.symm npq)]
        exact e56 _ _ s2
      · rw [← hG]
        exact upd_same
      · have := s6
        rw [← eW, List.nodup_append] at this
        exact this.1
    have fvG : Fz K G (tN x) vx := Fz.mono txG _ _ (fz_ex e56 fvx)
    have hxl := fzl_len fx
    rw [List.length_map] at hxl
    -- for position in turns
    refine q_forL (a := l) (xs := xs) (ev_var rfl) (sq_of (SG.1 _ _ hl)) (fun i σ2 H2 => ∃ fs2 ws2 z6 z7, σ2 = σ0 (some vx) z6 z7 ∧ St fs2 ws2 H2 ∧ Fz K H2 (tN x) vx ∧ (∀ y ∈ fs, y ∈ fs2) ∧ 2 * (120 - fs2.length) + ws2.length ≤ 2 * (120 - fs.length) + W1.length ∧ (∀ y ∈ fs2, y ≠ x → y ∉ ws2 → ∀ u ∈ us, thn y u ∈ fs2) ∧ ∀ j u, j < i → us[j]? = some u → thn x u ∈ fs2) (fun H7 e7 => ?_) (fun i σ2 H2 _ h => ?_) (fun i v σ2 H2 hv h => ?_) (fun σ2 H2 h => ?_)
    · exact ⟨fs, W1, z6, z7, rfl, Stex SG e7, fz_ex e7 fvG, fun y hy => hy, Nat.le_refl _, fun y hy hne hny => hcl y hy (by rw [← eW]; simp [hne, hny]), fun j u hj => absurd hj (Nat.not_lt_zero _)⟩
    · obtain ⟨fs2, ws2, _, _, _, h2, _⟩ := h
      exact sq_of (h2.1 _ _ hl)
    · obtain ⟨fs2, ws2, z6, z7, rfl, hS2, fv2, hsub, hms, hcl2, hdone⟩ := h
      obtain ⟨du, hdu, fu⟩ := fzl_getV fx hv
      obtain ⟨u, hu, rfl⟩ := map_get hdu
      have hum := List.mem_of_getElem? hu
      have px := hGP (s8 x hxf)
      show tSeq _ _ _ (σ0 (some vx) (some v) z7) H2
      refine q_asgD (d := tN (thn x u)) (ed_call (ea_d (ed_var rfl fv2) (ea_d (ed_var rfl (fz_ex hS2.1 fu)) ea_nil)) (pr_D ⟨m, x, u, rfl, by omega, px, hus u hum, rfl⟩)) fun vl H7 e7 fl => ?_
      have hS7 := Stex hS2 e7
      refine s_when (b := !decide (thn x u ∈ fs2)) (et_B (ev_dinF (K := K) (ed_var rfl fl) (ev_var rfl) hS7.2.1)) (fun hb8 H8 e8 => ?_) (fun hb8 H8 e8 => ?_)
      · have hnot : thn x u ∉ fs2 := fun z => by
          rw [decide_eq_true z] at hb8
          cases hb8
        have hS8 := Stex hS7 e8
        have hl8 := hle hS8
        refine q_asgM (ev_c H8 (Ex.refl _) _ fun H9 e9 => ?_)
        refine ev_var rfl H9 (Ex.refl _) _ fun H10 e10 => ?_
        refine ev_var rfl H10 (Ex.refl _) _ fun H11 e11 => ?_
        have e811 := e9.trans (e10.trans e11)
        obtain ⟨g1, g2, ⟨wy, g3, g4⟩, g5, g6, g7, g8, g9⟩ := Stex hS8 e811
        obtain ⟨bl, rfl, hbl⟩ := fz_tN.mp (fz_ex (e8.trans e811) fl)
        refine ⟨p, _, rfl, DPut.t (k := kI (thn x u)) g2 (by rw [kI_kV]; exact hbl) (by rw [List.length_map, sizeLine_eq]; omega), ?_⟩
        rw [kT_put hnot]
        have tx : TEx H11 (upd H11 p (.dT ((fs2 ++ [thn x u]).map kT))) := tex_dT g2
        have hq12 : upd H11 p (.dT ((fs2 ++ [thn x u]).map kT)) q = some (.lst wy) := by
          rw [upd_ne npq]
          exact g3
        have hp12 : upd H11 p (.dT ((fs2 ++ [thn x u]).map kT)) p = some (.dT ((fs2 ++ [thn x u]).map kT)) := upd_same
        have ex12 : Ex H (upd H11 p (.dT ((fs2 ++ [thn x u]).map kT))) := g1.mut hp
        have fl12 := FzL.mono tx _ _ g4
        have fv12 : Fz K (upd H11 p (.dT ((fs2 ++ [thn x u]).map kT))) (tN x) vx := Fz.mono tx _ _ (fz_ex (e7.trans (e8.trans e811)) fv2)
        have fb12 : Fz K (upd H11 p (.dT ((fs2 ++ [thn x u]).map kT))) (tN (thn x u)) (.ref bl) := Fz.mono tx _ _ (fz_ex (e8.trans e811) fl)
        generalize upd H11 p (.dT ((fs2 ++ [thn x u]).map kT)) = H12 at hq12 hp12 ex12 fl12 fv12 fb12
        have hwyl := fzl_len fl12
        rw [List.length_map] at hwyl
        refine s_appD (K := K) hq12 (ev_var rfl) (ed_var rfl fb12) (by omega) fun v13 H13 e13 f13 => ?_
        have tx13 : TEx H13 (upd H13 q (.lst (wy ++ [v13]))) := tex_lst (e13 _ _ hq12)
        have hnW : thn x u ∉ ws2 := fun z => hnot (g7 _ z)
        refine ⟨fs2 ++ [thn x u], ws2 ++ [thn x u], _, _, rfl, ⟨(ex12.trans e13).mut hq0, ?_, ⟨_, upd_same, ?_⟩, ?_, ?_, fun y hy => ?_, fun y hy => ?_, List.mem_append_left _ g9⟩, Fz.mono tx13 _ _ (fz_ex e13 fv12), fun y hy => List.mem_append_left _ (hsub y hy), ?_, fun y hy hne hny u2 hu2 => ?_, fun j u2 hj hu2 => ?_⟩
        · rw [upd_ne (Ne.symm npq)]
          exact e13 _ _ hp12
        · rw [List.map_append]
          exact fzl_append (FzL.mono tx13 _ _ (fzl_ex e13 fl12)) (fzl_cons (Fz.mono tx13 _ _ f13) fzl_nil)
        · rw [List.nodup_append]
          exact ⟨g5, by simp, fun y hy z hz w => hnot (by rw [List.mem_singleton.mp hz] at w; exact w ▸ hy)⟩
        · rw [List.nodup_append]
          exact ⟨g6, by simp, fun y hy z hz w => hnW (by rw [List.mem_singleton.mp hz] at w; exact w ▸ hy)⟩
        · rcases List.mem_append.mp hy with z | z
          · exact List.mem_append_left _ (g7 y z)
          · exact List.mem_append_right _ z
        · rcases List.mem_append.mp hy with z | z
          · exact g8 y z
          · rw [List.mem_singleton.mp z]
            exact .mul (s8 x hxf) hum
        · have h13 : fs2.length < 120 := by
            have nd3 : (fs2 ++ [thn x u]).Nodup := by
              rw [List.nodup_append]
              exact ⟨g5, by simp, fun y hy z hz w => hnot (by rw [List.mem_singleton.mp hz] at w; exact w ▸ hy)⟩
            have := nodup_le nd3 (m := everyN m m) fun y hy => every_isP.mpr (by
              rcases List.mem_append.mp hy with z | z
              · exact hGP (g8 y z)
              · rw [List.mem_singleton.mp z]
                exact thn_isP px (hus u hum))
            rw [List.length_append, List.length_singleton] at this
            omega
          rw [List.length_append, List.length_append, List.length_singleton]
          omega
        · rcases List.mem_append.mp hy with z | z
          · exact List.mem_append_left _ (hcl2 y z hne (fun w => hny (List.mem_append_left _ w)) u2 hu2)
          · exact absurd (List.mem_append_right _ z) hny
        · rcases Nat.lt_or_eq_of_le (Nat.le_of_lt_succ hj) with z | z
          · exact List.mem_append_left _ (hdone j u2 z hu2)
          · subst z
            rw [hu] at hu2
            cases (Option.some.inj hu2)
            exact List.mem_append_right _ (by simp)
      · have hin : thn x u ∈ fs2 := Classical.byContradiction fun z => by
          rw [decide_eq_false z] at hb8
          cases hb8
        refine ⟨fs2, ws2, _, _, rfl, Stex hS7 e8, fz_ex (e7.trans e8) fv2, hsub, hms, hcl2, fun j u2 hj hu2 => ?_⟩
        rcases Nat.lt_or_eq_of_le (Nat.le_of_lt_succ hj) with z | z
        · exact hdone j u2 z hu2
        · subst z
          rw [hu] at hu2
          cases (Option.some.inj hu2)
          exact hin
    · obtain ⟨fs2, ws2, z6, z7, rfl, hS2, fv2, hsub, hms, hcl2, hdone⟩ := h
      have hl2 := hle hS2
      refine s_when (b := false) (et_is (et_test (ev_op (x := .int ((fs2.length : Nat) : Int)) (y := .int 120) (fun H7 e7 Q7 q7 => ?_) (ev_var rfl) rv_I0)) (decide_eq_false (by omega))) (fun z => nomatch z) (fun _ H7 e7 => ?_)
      · refine c_cb (c_cons (ev_var rfl H7 (Ex.refl _) _ fun H8 e8 => c_nil ⟨p, _, rfl, e8 _ _ (e7 _ _ hS2.2.1), ?_⟩))
        rw [List.length_map]
        exact q7 H8 e8
      · refine ⟨fs2, ws2, _, _, _, rfl, by omega, Stex hS2 e7, fun y hy hny u hu => ?_⟩
        by_cases e : y = x
        · subst e
          obtain ⟨j, hj⟩ := List.getElem?_of_mem hu
          have := (List.getElem?_eq_some_iff.mp hj).1
          exact hdone j u (by omega) hj
        · exact hcl2 y hy e hny u hu
  · have hW : ws = [] := by
      cases ws with
      | nil => rfl
      | cons _ _ => cases hb
    subst hW
    refine s_ret (ev_var rfl) fun H6 e6 => k p fs H6 hp ((s1.trans e5).trans e6) (e6 _ _ (e5 _ _ s2)) s5 (closed_gen hus s9 s5 s8 fun f hf u hu => hcl f hf (by simp) u hu)
end
end WT
/-! What comes of a frame, sorted, is just what keeps the picture. -/
namespace WT
open PySem PySem.Spec PyProof.Rows L2 Evl
def iN (c : List Nat) : List Int := c.map fun n : Nat => (n : Int)
theorem iN_inj {a b : List Nat} (h : iN a = iN b) : a = b := map_inj (fun _ _ e => Int.ofNat.inj e) h
theorem kept_asc (k : Nat) (M : List (List Nat)) : (keptN k M).Pairwise fun a b => ltN a b = true := List.Pairwise.sublist List.filter_sublist (every_asc k)
/-- a list of ints that stands for lists of naturals -/
theorem iN_perm {zs : List (List Int)} {fs : List (List Nat)} (h : zs.Perm (fs.map iN)) : ∃ us : List (List Nat), zs = us.map iN ∧ us.Perm fs := by
  have key : ∀ zs : List (List Int), (∀ z ∈ zs, ∃ f ∈ fs, z = iN f) → ∃ us : List (List Nat), zs = us.map iN := fun zs => by
    induction zs with
    | nil => exact fun _ => ⟨[], rfl⟩
    | cons z zs ih =>
      intro hz
      obtain ⟨f, _, rfl⟩ := hz z List.mem_cons_self
      obtain ⟨us, rfl⟩ := ih fun y hy => hz y (List.mem_cons_of_mem _ hy)
      exact ⟨f :: us, rfl⟩
  obtain ⟨us, rfl⟩ := key zs fun z hz => by
    obtain ⟨f, hf, rfl⟩ := List.mem_map.mp (h.subset hz)
    exact ⟨f, hf, rfl⟩
  refine ⟨us, rfl, List.Perm.symm ?_⟩
  have c : ∀ f, fs.count f = us.count f := fun f => by
    have e : ∀ l : List (List Nat), (l.map iN).count (iN f) = l.count f := fun l => by
      induction l with
      | nil => rfl
      | cons a l ih =>
        rw [List.map_cons, List.count_cons, List.count_cons, ih]
        by_cases z : a = f
        · simp [z]
        · have : ¬ iN a = iN f := fun w => z (iN_inj w)
          simp [z, this]
    rw [← e, ← e]
    exact (h.count_eq _).symm
  exact List.perm_iff_count.mpr c
theorem frame_sorted {k : Nat} {M : List (List Nat)} {fs : List (List Nat)} {zs : List (List Int)} (nd : fs.Nodup) (hf : ∀ g, g ∈ fs ↔ Aut k M g) (hp : zs.Perm (fs.map iN)) (hs : zs.Pairwise (· ≤ ·)) : zs = (keptN k M).map iN := by
  obtain ⟨us, rfl, pu⟩ := iN_perm hp
  rw [asc_one (a := keptN k M) (b := us) (kept_asc k M) ?_ (pu.nodup_iff.mpr nd) fun x => ?_]
  · refine (List.pairwise_map.mp hs).imp fun {a b} h => ?_
    rw [← ltN_int]
    exact decide_eq_false (List.not_lt.mpr h)
  · rw [mem_kept, pu.mem_iff, hf]
end WT
/-! Sets of many tuples: each slot of a table of 2 ^ k slots is met, from anywhere (5 j + 1 goes all round). -/
namespace WT
open PySem PySem.Spec PyProof.Rows L2
/-- going on without bound -/
def gGo : Nat → Nat → Nat
  | 0, x => x
  | n + 1, x => 5 * gGo n x + 1
theorem gGo_add (x : Nat) (a : Nat) : ∀ b, gGo (a + b) x = gGo b (gGo a x)
  | 0 => rfl
  | b + 1 => by
    show 5 * gGo (a + b) x + 1 = 5 * gGo b (gGo a x) + 1
    rw [gGo_add x a b]
theorem gGo_pow (x : Nat) : ∀ n, 4 * gGo n x + 1 = 5 ^ n * (4 * x + 1)
  | 0 => by
    show 4 * x + 1 = _
    rw [Nat.pow_zero, Nat.one_mul]
  | n + 1 => by
    have ih := gGo_pow x n
    show 4 * (5 * gGo n x + 1) + 1 = _
    rw [Nat.pow_succ, Nat.mul_comm (5 ^ n) 5, Nat.mul_assoc, ← ih]
    omega
theorem five_pow : ∀ k : Nat, ∃ v, 5 ^ 2 ^ k = 1 + 4 * (2 ^ k * (2 * v + 1))
  | 0 => ⟨0, rfl⟩
  | k + 1 => by
    obtain ⟨v, e⟩ := five_pow k
    generalize hA : 2 ^ k = A at e
    generalize hV : 2 * v + 1 = V at e
    refine ⟨v + A * (V * V), ?_⟩
    have e2 : 2 * (v + A * (V * V)) + 1 = V + 2 * (A * (V * V)) := by omega
    rw [e2, Nat.pow_succ 2 k, Nat.pow_mul, hA, e, Nat.pow_two]
    have d1 : A * 2 * (V + 2 * (A * (V * V))) = 2 * (A * V) + 4 * (A * (A * (V * V))) := by
      rw [Nat.mul_add, Nat.mul_comm A 2, Nat.mul_assoc 2 A V, Nat.mul_assoc 2 A, Nat.mul_left_comm A 2]
      omega
    have d2 : (A * V) * (A * V) = A * (A * (V * V)) := by
      rw [Nat.mul_assoc, Nat.mul_left_comm V A V]
    rw [d1]
    generalize A * V = W at d2 ⊢
    rw [← d2]
    have d3 : (1 + 4 * W) * (1 + 4 * W) = 1 + 8 * W + 16 * (W * W) := by
      rw [Nat.add_mul, Nat.mul_add, Nat.one_mul, Nat.mul_add, Nat.mul_one]
      have : 4 * W * (4 * W) = 16 * (W * W) := by
        rw [Nat.mul_assoc, Nat.mul_left_comm W 4 W]
        omega
      omega
    omega
/-- after 2 ^ k steps the k-th digit is another one -/
theorem gGo_two (k x : Nat) : ∃ u, gGo (2 ^ k) x = x + 2 ^ k * (2 * u + 1) := by
  obtain ⟨v, e⟩ := five_pow k
  have h := gGo_pow x (2 ^ k)
  rw [e] at h
  generalize 2 ^ k = A at h ⊢
  refine ⟨v * (4 * x + 1) + 2 * x, ?_⟩
  have e2 : 2 * (v * (4 * x + 1) + 2 * x) + 1 = (2 * v + 1) * (4 * x + 1) := by
    rw [Nat.add_mul, Nat.one_mul, Nat.mul_assoc]
    omega
  rw [e2]
  have e3 : (1 + 4 * (A * (2 * v + 1))) * (4 * x + 1) = (4 * x + 1) + 4 * (A * ((2 * v + 1) * (4 * x + 1))) := by
    rw [Nat.add_mul, Nat.one_mul, Nat.mul_assoc, Nat.mul_assoc]
  rw [e3] at h
  omega
theorem gGo_all (x j : Nat) : ∀ k, ∃ n, n < 2 ^ k ∧ gGo n x % 2 ^ k = j % 2 ^ k
  | 0 => ⟨0, by decide, by rw [Nat.pow_zero, Nat.mod_one, Nat.mod_one]⟩
  | k + 1 => by
    obtain ⟨n, hn, e⟩ := gGo_all x j k
    rw [Nat.pow_succ]
    by_cases h : gGo n x % (2 ^ k * 2) = j % (2 ^ k * 2)
    · exact ⟨n, by omega, h⟩
    · refine ⟨n + 2 ^ k, by omega, ?_⟩
      obtain ⟨u, eu⟩ := gGo_two k (gGo n x)
      rw [gGo_add, eu]
      have hp : 0 < 2 ^ k := Nat.pow_pos (by decide)
      generalize gGo n x = y at e h ⊢
      generalize 2 ^ k = A at e h hp ⊢
      rw [Nat.mod_mul, Nat.mod_mul] at h
      rw [Nat.mod_mul, Nat.mod_mul, Nat.add_mul_mod_self_left, Nat.add_mul_div_left _ _ hp, e]
      rw [e] at h
      have h1 : y / A % 2 ≠ j / A % 2 := fun z => h (by rw [z])
      have h2 : (y / A + (2 * u + 1)) % 2 = j / A % 2 := by omega
      rw [h2]
theorem lcgI_go (m i : Nat) : ∀ n, lcgI m i n % (m + 1) = gGo n i % (m + 1)
  | 0 => rfl
  | n + 1 => by
    have ih := lcgI_go m i n
    show (lcgI m i n * 5 + 1) % (m + 1) % (m + 1) = (5 * gGo n i + 1) % (m + 1)
    rw [Nat.mod_mod, Nat.add_mod, Nat.mul_mod, ih, ← Nat.mul_mod, ← Nat.add_mod, Nat.mul_comm]
/-- the masks of tables that grow -/
def MG (m : Nat) : Prop := ∃ k, 3 ≤ k ∧ k ≤ 15 ∧ m + 1 = 2 ^ k
theorem MG.odd {m : Nat} (h : MG m) : m % 2 = 1 := by
  obtain ⟨k, h1, _, e⟩ := h
  obtain ⟨d, rfl⟩ : ∃ d, k = d + 1 := ⟨k - 1, by omega⟩
  rw [Nat.pow_succ] at e
  omega
theorem MG.le {m : Nat} (h : MG m) : m ≤ 32767 := by
  obtain ⟨k, _, h2, e⟩ := h
  have : 2 ^ k ≤ 2 ^ 15 := Nat.pow_le_pow_right (by decide) h2
  have e2 : (2 : Nat) ^ 15 = 32768 := by decide
  omega
theorem lcgI_meets {m : Nat} (hm : MG m) {i j : Nat} (hi : i ≤ m) (hj : j ≤ m) : ∃ n, n ≤ m ∧ lcgI m i n = j := by
  obtain ⟨k, _, _, e⟩ := hm
  obtain ⟨n, hn, h⟩ := gGo_all i j k
  rw [← e] at hn h
  refine ⟨n, by omega, ?_⟩
  have h2 := lcgI_go m i n
  rw [h, Nat.mod_eq_of_lt (show j < m + 1 by omega)] at h2
  have hl : lcgI m i n < m + 1 := by
    cases n with
    | zero => exact Nat.lt_succ_of_le hi
    | succ n => exact Nat.mod_lt _ (Nat.succ_pos _)
  rw [Nat.mod_eq_of_lt hl] at h2
  exact h2
theorem runs_meet {m : Nat} (hm : MG m) (h : Int) {j : Nat} (hj : j ≤ m) : ∃ n, n ≤ m + 12 ∧ runI m (SetTable.bits h) n = j := by
  obtain ⟨n, hn, e⟩ := lcgI_meets hm (runI_le m (SetTable.bits h) 12) hj
  exact ⟨12 + n, by omega, (runI_tail (bits_lt h) n).trans e⟩
/-- the way of a search comes to each slot soon enough -/
theorem way_meets {m : Nat} (hm : MG m) (h : Int) {j : Nat} (hj : j ≤ m) : ∃ k, k < 10 * SetTable.turns m ∧ way m h k = j := by
  obtain ⟨n, hn, e⟩ := runs_meet hm h hj
  obtain ⟨k, hk, e2⟩ := run_nth m (SetTable.bits h) n
  exact ⟨k, by unfold SetTable.turns; omega, (congrArg SetTable.Probe.j e2).trans e⟩
theorem way_in (m : Nat) (h : Int) (k : Nat) : way m h k ≤ m := by
  have hi : SetTable.bits h % (m + 1) ≤ m := Nat.le_of_lt_succ (Nat.mod_lt _ (Nat.succ_pos _))
  have r := runEnd_bd hi
  have q := nth_in (m := m) k (runAt m (SetTable.bits h % (m + 1)) (SetTable.bits h)) (by
    show SetTable.bits h % (m + 1) + (SetTable.runEnd m _ - _) ≤ m
    omega)
  exact Nat.le_trans (Nat.le_add_right _ _) q
end WT
/-! Sets of many tuples: the table, one put in, all laid anew. -/
namespace WT
open PySem PySem.Spec PyProof.Rows L2
/-- a table, of any size, whose slots are found again from their hashes -/
structure TabG (t : SetTable) (hs : List Int) : Prop where
  ris : Ris t.place.toList
  dm : t.dummies = #[]
  sz : t.place.size = hs.length
  mg : MG t.mask
  bd : ∀ x ∈ t.place.toList, x ≤ t.mask
  back : ∀ (i : Nat) (h : Int) (j : Nat), hs[i]? = some h → t.place.toList[i]? = some j → ∃ k, way t.mask h k = j ∧ ∀ c, c < k → way t.mask h c ∈ t.place.toList
section
variable {t : SetTable} {hs : List Int}
theorem TabG.free (T : TabG t hs) (hl : hs.length ≤ t.mask) (h : Int) : ∃ K, K < 10 * SetTable.turns t.mask ∧ way t.mask h K ∉ t.place.toList ∧ ∀ c, c < K → way t.mask h c ∈ t.place.toList := by
  obtain ⟨j, hj, hn⟩ := st_missing t.place.toList (t.mask + 1) (by rw [Array.length_toList, T.sz]; omega)
  obtain ⟨k, hk, e⟩ := way_meets T.mg h (Nat.le_of_lt_succ hj)
  obtain ⟨K, h1, h2, h3⟩ := st_least (p := fun c => way t.mask h c ∉ t.place.toList) k (e ▸ hn)
  exact ⟨K, Nat.lt_of_le_of_lt h1 hk, h2, fun c hc => Classical.byContradiction (h3 c hc)⟩
theorem TabG.ahead (T : TabG t hs) {h : Int} {K i j : Nat} (hK : way t.mask h K ∉ t.place.toList) (hi : hs[i]? = some h) (hj : t.place.toList[i]? = some j) : ∃ k, k < K ∧ way t.mask h k = j := by
  obtain ⟨k, e, hb⟩ := T.back i h j hi hj
  have hin : way t.mask h k ∈ t.place.toList := by rw [e]; exact List.mem_of_getElem? hj
  rcases Nat.lt_trichotomy k K with c | c | c
  · exact ⟨k, c, e⟩
  · exact absurd (c ▸ hin) hK
  · exact absurd (hb K c) hK
/-- what is put in at the end of its way -/
theorem TabG.put (T : TabG t hs) {h : Int} {K : Nat} (hK : way t.mask h K ∉ t.place.toList) (hb : ∀ c, c < K → way t.mask h c ∈ t.place.toList) {t' : SetTable} {p : Nat} (he : t.put (way t.mask h K) = (t', p)) :
    p ≤ hs.length ∧ TabG t' (hs.take p ++ h :: hs.drop p) ∧ t'.mask = t.mask ∧ t'.led = t.led ∧ t'.plain = t.plain ∧ t'.fill = hs.length + 1 := by
  have e1 : t' = (t.put (way t.mask h K)).1 := by rw [he]
  have e2 : SetTable.below t.place (way t.mask h K) = p := congrArg Prod.snd he
  have hw := way_in t.mask h K
  generalize hj : way t.mask h K = j at hK e1 e2 hw
  obtain ⟨c1, _, _⟩ := below_cut T.ris j
  rw [e2] at c1
  have hpl : p ≤ t.place.toList.length := by rw [Array.length_toList]; exact c1
  have hph : p ≤ hs.length := T.sz ▸ c1
  have hpp : t'.place.toList = t.place.toList.take p ++ j :: t.place.toList.drop p := by rw [e1, put_place, e2]
  have hdm : t'.dummies = #[] := by rw [e1]; exact put_dm T.dm j
  have hsz : t'.place.size = hs.length + 1 := by rw [← Array.length_toList, hpp, len_ins _ hpl, Array.length_toList, T.sz]
  have up : ∀ {x : Nat}, x ∈ t.place.toList → x ∈ t'.place.toList := fun hx => by rw [hpp]; exact mem_ins.2 (.inr hx)
  have hm : t'.mask = t.mask := by rw [e1]; rfl
  have hr : Ris t'.place.toList := by
    rw [e1]
    exact ris_insert T.ris fun e => hK (List.mem_of_getElem? (by rw [Array.getElem?_toList]; exact e))
  refine ⟨hph, ⟨hr, hdm, by rw [len_ins _ hph]; exact hsz, hm ▸ T.mg, fun x hx => ?_, fun i h' j' h1 h2 => ?_⟩, hm, by rw [e1]; rfl, by rw [e1]; rfl, ?_⟩
  · rw [hm]
    rw [hpp] at hx
    rcases mem_ins.1 hx with z | z
    · exact z ▸ hw
    · exact T.bd x z
  · rw [tins_get hs hph] at h1
    rw [hpp, tins_get _ hpl] at h2
    rw [hm]
    by_cases c : i < p
    · rw [if_pos c] at h1 h2
      obtain ⟨k, e, z⟩ := T.back i h' j' h1 h2
      exact ⟨k, e, fun c hc => up (z c hc)⟩
    · rw [if_neg c] at h1 h2
      by_cases d : i = p
      · rw [if_pos d] at h1 h2
        cases h1
        cases h2
        exact ⟨K, hj, fun c hc => up (hb c hc)⟩
      · rw [if_neg d] at h1 h2
        obtain ⟨k, e, z⟩ := T.back (i - 1) h' j' h1 h2
        exact ⟨k, e, fun c hc => up (z c hc)⟩
  · show t'.place.size + t'.dummies.size = hs.length + 1
    rw [hsz, hdm]
    rfl
end
/-! ### all laid anew -/
theorem free_at {m : Nat} (hm : MG m) (owner : Array (Option Nat)) (h : Int) {j : Nat} (hj : j ≤ m) (hf : oAt owner j = none) :
    ∃ K, SetTable.layClean.free m owner (SetTable.turns m) (SetTable.bits h % (m + 1)) (SetTable.bits h) = some (way m h K) ∧ oAt owner (way m h K) = none ∧ ∀ c, c < K → oAt owner (way m h c) ≠ none := by
  obtain ⟨n, hn, e⟩ := runs_meet hm h hj
  have hw : way m h (off m (SetTable.bits h % (m + 1)) (SetTable.bits h) n) = j := by
    have q := congrArg SetTable.Probe.j (nth_off m n (SetTable.bits h % (m + 1)) (SetTable.bits h))
    rw [itL_run] at q
    exact q.trans e
  obtain ⟨K, k1, k2, k3⟩ := st_least (p := fun c => oAt owner (way m h c) = none) _ (hw ▸ hf)
  refine ⟨K, free_spec m owner (SetTable.turns m) n _ _ K (by unfold SetTable.turns; omega) k1 (fun c hc => ?_) (by rw [k2]; rfl), k2, k3⟩
  cases z : oAt owner (nth m (runAt m (SetTable.bits h % (m + 1)) (SetTable.bits h)) c).j with
  | none => exact absurd z (k3 c hc)
  | some _ => rfl
theorem own_step {m : Nat} (hm : MG m) {done : List Int} {owner : Array (Option Nat)} (W : Own m done owner) (hl : done.length ≤ m) (h : Int) :
    ∃ j, SetTable.layClean.free m owner (SetTable.turns m) (SetTable.bits h % (m + 1)) (SetTable.bits h) = some j ∧ Own m (done ++ [h]) (owner.setIfInBounds j (some done.length)) := by
  obtain ⟨ps, hps, hin⟩ := W.ps
  obtain ⟨j0, h0, hn0⟩ := st_missing ps (m + 1) (by omega)
  have hj0 : oAt owner j0 = none := Classical.byContradiction fun z => hn0 (hin j0 (Nat.le_of_lt_succ h0) z)
  obtain ⟨K, e1, e2, e3⟩ := free_at hm owner h (Nat.le_of_lt_succ h0) hj0
  have hjm := way_in m h K
  have hself := oAt_set_self (owner := owner) (j := way m h K) (some done.length) (by rw [W.sz]; exact Nat.lt_succ_of_le hjm)
  have oth : ∀ {i : Nat}, i ≠ way m h K → oAt (owner.setIfInBounds (way m h K) (some done.length)) i = oAt owner i := fun c => oAt_set_ne _ c
  have mono : ∀ {i : Nat}, oAt owner i ≠ none → oAt (owner.setIfInBounds (way m h K) (some done.length)) i ≠ none := fun {i} hi => by
    by_cases c : i = way m h K
    · rw [c, hself]
      simp
    · rw [oth c]
      exact hi
  refine ⟨way m h K, e1, by rw [Array.size_setIfInBounds]; exact W.sz, fun j k hj e => ?_, fun k hk => ?_, way m h K :: ps, by simp [hps], fun j hj e => ?_⟩
  · by_cases c : j = way m h K
    · rw [c, hself] at e
      cases e
      exact ⟨h, K, by simp, c.symm, fun d hd => mono (e3 d hd)⟩
    · rw [oth c] at e
      obtain ⟨h', K', a1, a2, a3⟩ := W.at_ j k hj e
      exact ⟨h', K', by rw [List.getElem?_append_left (List.getElem?_eq_some_iff.mp a1).1]; exact a1, a2, fun d hd => mono (a3 d hd)⟩
  · rw [List.length_append, List.length_singleton] at hk
    by_cases c : k < done.length
    · obtain ⟨j, hj, e⟩ := W.all k c
      exact ⟨j, hj, by rw [oth (fun z => by rw [z, e2] at e; cases e)]; exact e⟩
    · exact ⟨way m h K, hjm, by rw [hself, show k = done.length by omega]⟩
  · by_cases c : j = way m h K
    · exact c ▸ List.mem_cons_self
    · rw [oth c] at e
      exact List.mem_cons_of_mem _ (hin j hj e)
theorem lay_ok {m : Nat} (hm : MG m) {hs : Array Int} (hn : hs.size ≤ m) : ∃ owner, SetTable.layClean m hs = some owner ∧ Own m hs.toList owner := by
  have key : ∀ (rest done : List Int) (owner : Array (Option Nat)), Own m done owner → done.length + rest.length ≤ m → ∃ owner', rest.foldl (stepF m) (some (owner, done.length)) = some (owner', (done ++ rest).length) ∧ Own m (done ++ rest) owner' := fun rest => by
    induction rest with
    | nil => exact fun done owner W _ => ⟨owner, by simp, by simpa using W⟩
    | cons h rest ih =>
      intro done owner W hl
      rw [List.length_cons] at hl
      obtain ⟨j, e, W'⟩ := own_step hm W (by omega) h
      obtain ⟨owner', f, W2⟩ := ih (done ++ [h]) _ W' (by simp; omega)
      have ea : done ++ [h] ++ rest = done ++ h :: rest := by simp
      rw [ea] at f W2
      refine ⟨owner', ?_, W2⟩
      rw [List.foldl_cons, stepF_some e, ← f]
      simp
  obtain ⟨owner, f, W⟩ := key hs.toList [] _ (Own.init m) (by rw [Array.length_toList]; simpa using hn)
  refine ⟨owner, ?_, W⟩
  rw [layClean_eq]
  have f' : hs.toList.foldl (stepF m) (some (Array.replicate (m + 1) none, 0)) = some (owner, ([] ++ hs.toList).length) := f
  rw [f']
  rfl
theorem relay_ok (t : SetTable) {hs : Array Int} {wanted M : Nat} (hw : SetTable.sizeAbove wanted - 1 = M) (hM : MG M) (hn : hs.size ≤ M) :
    ∃ t' order, t.relaid hs wanted = some (t', order) ∧ order.toList.Perm (List.range hs.size) ∧ TabG t' (order.toList.map fun i => hs.getD i 0) ∧ t'.mask = M ∧ t'.led = t.led ∧ t'.plain = t.plain := by
  obtain ⟨owner, e, W⟩ := lay_ok hM hn
  have hr : t.relaid hs wanted = some (tabOf t M owner, ((liveOf M owner).map (·.2)).toArray) := by
    rw [relaid_eq, hw, e]
    rfl
  have ris := ris_live (fun j => owner.getD j none) (List.range (M + 1)) (show Ris (List.range (M + 1)) from List.pairwise_lt_range)
  have r1 : Ris ((liveOf M owner).map (·.1)) := ris.1
  have r2 : ∀ x ∈ (liveOf M owner).map (·.1), x ∈ List.range (M + 1) := ris.2
  have mem : ∀ {j k : Nat}, (j, k) ∈ liveOf M owner ↔ j ≤ M ∧ oAt owner j = some k := mem_live W.sz
  have every : ∀ k, k < hs.size → k ∈ (liveOf M owner).map (·.2) := fun k hk => by
    obtain ⟨j, b1, b2⟩ := W.all k (by rw [Array.length_toList]; exact hk)
    exact List.mem_map.mpr ⟨(j, k), mem.2 ⟨b1, b2⟩, rfl⟩
  have hlen : (liveOf M owner).length = hs.size := by
    obtain ⟨ps, p1, p2⟩ := W.ps
    have a := nat_nodup_len ((liveOf M owner).map (·.1)) ps (show ((liveOf M owner).map (·.1)).Nodup from List.Pairwise.imp (fun h => Nat.ne_of_lt h) r1) fun x hx => by
      obtain ⟨⟨y, k⟩, hq, ey⟩ := List.mem_map.mp hx
      obtain rfl : y = x := ey
      obtain ⟨b1, b2⟩ := mem.1 hq
      exact p2 y b1 (by rw [b2]; simp)
    have b := nat_nodup_len (List.range hs.size) ((liveOf M owner).map (·.2)) List.nodup_range fun k hk => every k (List.mem_range.mp hk)
    have p3 : ps.length = hs.size := by rw [p1]; exact Array.length_toList
    rw [List.length_map, p3] at a
    rw [List.length_map, List.length_range] at b
    omega
  refine ⟨_, _, hr, perm_range hs.size _ (by simpa using hlen) (fun k hk => by simpa using every k hk), ⟨r1, rfl, by simp [tabOf], hM, fun x hx => Nat.le_of_lt_succ (List.mem_range.mp (r2 x hx)), fun i h j h1 h2 => ?_⟩, rfl, rfl, rfl⟩
  have h1' : (((liveOf M owner).map (·.2)).map fun i => hs.getD i 0)[i]? = some h := h1
  have h2' : ((liveOf M owner).map (·.1))[i]? = some j := h2
  rw [List.getElem?_map, List.getElem?_map] at h1'
  rw [List.getElem?_map] at h2'
  cases hq : (liveOf M owner)[i]? with
  | none =>
    rw [hq] at h2'
    cases h2'
  | some q =>
    obtain ⟨y, k⟩ := q
    rw [hq] at h1' h2'
    obtain rfl : y = j := Option.some.inj h2'
    have eh : hs.getD k 0 = h := Option.some.inj h1'
    obtain ⟨b1, b2⟩ := mem.1 (List.mem_of_getElem? hq)
    obtain ⟨h0, K, a1, a2, a3⟩ := W.at_ y k b1 b2
    have e0 : hs.getD k 0 = h0 := by
      rw [Array.getD_eq_getD_getElem?, ← Array.getElem?_toList, a1]
      rfl
    obtain rfl : h0 = h := e0.symm.trans eh
    refine ⟨K, a2, fun c hc => ?_⟩
    show way M h0 c ∈ (liveOf M owner).map (·.1)
    cases z : oAt owner (way M h0 c) with
    | none => exact absurd z (a3 c hc)
    | some k2 => exact List.mem_map.mpr ⟨(way M h0 c, k2), mem.2 ⟨way_in M h0 c, z⟩, rfl⟩
end WT
/-! Sets of many tuples of ints: the object, the search, adding. -/
namespace WT
open PySem PySem.Spec PyProof.Rows L2
def MS (m : Nat) : Prop := m = 7 ∨ m = 31 ∨ m = 127 ∨ m = 511 ∨ m = 2047 ∨ m = 8191
theorem MS.mg {m : Nat} (h : MS m) : MG m := by
  rcases h with rfl | rfl | rfl | rfl | rfl | rfl
  · exact ⟨3, by decide, by decide, rfl⟩
  · exact ⟨5, by decide, by decide, rfl⟩
  · exact ⟨7, by decide, by decide, rfl⟩
  · exact ⟨9, by decide, by decide, rfl⟩
  · exact ⟨11, by decide, by decide, rfl⟩
  · exact ⟨13, by decide, by decide, rfl⟩
/-- at a stands a set of the tuples L -/
structure SetG (P : Program) (w : World) (h : Heap) (a : Addr) (L : List (Addr × List Int)) (es : Array (Int × Value)) (ep : Nat) (t : SetTable) : Prop where
  ob : ∃ o, h.get? a = some o ∧ o.ExactSet ∧ o.data = .set es ep t
  rows : es.toList = rowsOf P w L
  tab : TabG t (L.map fun p => thash P w p.2)
  ms : MS t.mask
  nd : (L.map (·.2)).Nodup
  tup : ∀ p ∈ L, IsT P w h p.2 p.1
  plain : t.plain = true
  led : w.params.followText "set-order" = true ∨ t.led = true
  room : L.length * 5 < t.mask * 3
  few : L.length ≤ 4900
section
variable {P : Program} {w : World} {A : Around} {E : Value → Shared → Prop} {s : Shared} {a : Addr} {L : List (Addr × List Int)} {es : Array (Int × Value)} {ep : Nat} {t : SetTable}
theorem rows_size (h : es.toList = rowsOf P w L) : es.size = L.length := by
  have := congrArg List.length h
  unfold rowsOf at this
  rwa [Array.length_toList, List.length_map] at this
theorem rows_at (h : es.toList = rowsOf P w L) {i : Nat} {p : Addr × List Int} (e : L[i]? = some p) : es[i]? = some (thash P w p.2, Value.ref p.1) := by
  rw [← Array.getElem?_toList, h]
  unfold rowsOf
  rw [List.getElem?_map, e]
  rfl
theorem tab_fits {hs : List Int} (T : TabG t hs) {n : Nat} (hn : hs.length = n) (hm : n ≤ t.mask) : t.fits n = true := by
  unfold SetTable.fits SetTable.fill
  rw [T.dm, Bool.and_eq_true, beq_iff_eq, decide_eq_true_eq]
  have := T.sz
  refine ⟨by omega, ?_⟩
  show t.place.size + 0 ≤ t.mask
  omega
theorem SetG.fits (R : SetG P w s.heap a L es ep t) : t.fits es.size = true := by
  have h1 := R.room
  have h2 := rows_size R.rows
  exact tab_fits R.tab (by rw [List.length_map]; exact h2.symm) (by omega)
theorem turns_le (h : MS t.mask) : 10 * SetTable.turns t.mask < 99000 := by
  unfold SetTable.turns
  rcases h with e | e | e | e | e | e <;> omega
/-- the search, from the c-th step of the way on -/
theorem seek_from (R : SetG P w s.heap a L es ep t) {x : Addr} {k : List Int} (hx : IsT P w s.heap k x) (hu : A.units < cLine) {K : Nat} (hKf : K < 10 * SetTable.turns t.mask)
    (hK : way t.mask (thash P w k) K ∉ t.place.toList) (hKb : ∀ c, c < K → way t.mask (thash P w k) c ∈ t.place.toList) {Q : SetFound → Shared → Prop}
    (hin : k ∈ L.map (·.2) → Q (.there none) s) (hout : k ∉ L.map (·.2) → Q (.free (way t.mask (thash P w k) K) false) s) :
    ∀ (f c : Nat) (stand : Option SetTable.Probe), stand.getD (t.probeStart (thash P w k)) = nth t.mask (t.probeStart (thash P w k)) c → c ≤ K → K - c < f →
      (∀ (i : Nat) p, L[i]? = some p → p.2 = k → ∃ d, c ≤ d ∧ d < K ∧ t.place.toList[i]? = some (way t.mask (thash P w k) d)) →
      wpAny (model P w) A (setSearchFrom a (.ref x) (thash P w k) true f stand) Q E s := by
  obtain ⟨o, ho, hex, hd⟩ := R.ob
  have w0 : ∀ c, (nth t.mask (t.probeStart (thash P w k)) c).j = way t.mask (thash P w k) c := fun _ => rfl
  have nd0 : ∀ (n : Nat) (p : SetTable.Probe), p.dummy = none → (nth t.mask p n).dummy = none := fun n => by
    induction n with
    | zero => exact fun p h => h
    | succ n ih =>
      refine fun p h => ih _ ?_
      unfold adv
      split <;> exact h
  intro f
  induction f with
  | zero => exact fun c stand _ _ hf => absurd hf (Nat.not_lt_zero _)
  | succ f ih =>
    intro c stand hst hc hf hre
    rw [setSearchFrom_succ]
    refine wpAny_bind (wpAny_setState_of ho hd R.fits ?_)
    dsimp only
    refine wp_if_neg (by unfold SetTable.gaveWay; rw [R.ms.mg.odd]; decide) ?_
    try refine wpAny_bind (wpAny_pure ?_)
    have sh : ∀ q, nth t.mask (nth t.mask (t.probeStart (thash P w k)) c) q = nth t.mask (t.probeStart (thash P w k)) (c + q) := fun q => (nth_add t.mask c _ q).symm
    have shj : ∀ q, (nth t.mask (nth t.mask (t.probeStart (thash P w k)) c) q).j = way t.mask (thash P w k) (c + q) := fun q => (congrArg SetTable.Probe.j (sh q)).trans (w0 _)
    have spec := go_spec t R.tab.ris R.tab.dm (fun i => (es[i]?.map (·.1)).getD 0) (thash P w k) (10 * SetTable.turns t.mask) (K - c) (nth t.mask (t.probeStart (thash P w k)) c) (nd0 c _ rfl) (by omega)
      (fun q hq => by rw [shj]; exact hKb (c + q) (by omega)) (by rw [shj, show c + (K - c) = K by omega]; exact hK)
    have hashAt : ∀ (i : Nat) p, L[i]? = some p → (es[i]?.map (·.1)).getD 0 = thash P w p.2 := fun i p hp => by rw [rows_at R.rows hp]; rfl
    rcases spec with ⟨q, i, hq, hi, hh, hno, hpr⟩ | ⟨hno, hpr⟩
    · rw [shj, sh] at hpr
      rw [show t.probe (fun i => (es[i]?.map (·.1)).getD 0) (thash P w k) (stand.getD (t.probeStart (thash P w k))) = _ from hst ▸ hpr]
      dsimp only
      rw [shj] at hi
      have hil : i < L.length := by
        have h1 := (List.getElem?_eq_some_iff.mp hi).1
        have h2 := R.tab.sz
        rw [List.length_map] at h2
        rw [Array.length_toList] at h1
        omega
      obtain ⟨p, hp⟩ : ∃ p, L[i]? = some p := ⟨_, List.getElem?_eq_getElem hil⟩
      have hmem := List.mem_of_getElem? hp
      have rest : wpAny (model P w) A (searchRest a (.ref x) (thash P w k) true f es t (way t.mask (thash P w k) (c + q)) i (nth t.mask (t.probeStart (thash P w k)) (c + (q + 1)))) Q E s := by
        unfold searchRest
        rw [rows_at R.rows hp]
        dsimp only
        refine wpAny_bind (wpAny_holding (wpAny_eqBool_tuple hu (R.tup p hmem) hx ?_))
        refine wpAny_bind (wpAny_setState_of ho hd R.fits ?_)
        dsimp only
        by_cases hkk : p.2 = k
        · exact wp_if_pos (by simp [hkk]) (wpAny_pure (hin (List.mem_map.mpr ⟨p, hmem, hkk⟩)))
        · refine wp_if_neg (by simp [hkk]) ?_
          try refine wpAny_bind (wpAny_pure ?_)
          rw [sameMem]
          dsimp only
          have hsl : t.slot (way t.mask (thash P w k) (c + q)) = .live i := slot_live R.tab.ris hi
          simp only [if_true, hsl, rows_at R.rows hp]
          refine wpAny_bind (wpAny_isSame_ref_self (wpAny_bind (wpAny_pure ?_)))
          simp only [if_true]
          refine wp_if_neg (by simp [hkk]) (ih (c + (q + 1)) _ rfl (by omega) (by omega) fun i0 p0 h0 hk0 => ?_)
          obtain ⟨d, a1, a2, a3⟩ := hre i0 p0 h0 hk0
          have h00 := (hashAt i0 p0 h0).trans (congrArg (thash P w) hk0)
          rcases Nat.lt_trichotomy d (c + q) with z | z | z
          · exact absurd h00 (hno (d - c) i0 (by omega) (by rw [shj, show c + (d - c) = d by omega]; exact a3))
          · rw [z] at a3
            have s0 := slot_live R.tab.ris a3
            rw [hsl] at s0
            injection s0 with s0
            rw [← s0, hp] at h0
            exact absurd ((congrArg Prod.snd (Option.some.inj h0)).trans hk0) hkk
          · exact ⟨d, by omega, a2, a3⟩
      by_cases hl : t.led = true
      · refine wp_if_neg (by simp [hl]) ?_
        try refine wpAny_bind (wpAny_pure ?_)
        exact rest
      · refine wp_if_pos (by simp [hl]) ?_
        refine wpAny_bind (seen_tup hx (fun y hy => ?_) ?_)
        · obtain ⟨e, he, ee⟩ := List.mem_map.mp hy
          have he2 : e ∈ es.toList := by
            have : e ∈ es ∧ e.1 = thash P w k := by simpa using he
            simpa using this.1
          rw [R.rows] at he2
          obtain ⟨p2, hp2, e2⟩ := List.mem_map.mp he2
          exact ⟨p2.2, p2.1, by rw [← ee, ← e2], R.tup p2 hp2⟩
        · refine wp_if_neg (by decide) ?_
          try refine wpAny_bind (wpAny_pure ?_)
          exact rest
    · rw [shj, show c + (K - c) = K by omega] at hpr
      rw [show t.probe (fun i => (es[i]?.map (·.1)).getD 0) (thash P w k) (stand.getD (t.probeStart (thash P w k))) = _ from hst ▸ hpr]
      dsimp only
      refine wpAny_pure (hout fun hm => ?_)
      obtain ⟨p0, h0, hk0⟩ := List.mem_map.mp hm
      obtain ⟨i0, h00⟩ := List.getElem?_of_mem h0
      obtain ⟨d, a1, a2, a3⟩ := hre i0 p0 h00 hk0
      exact hno (d - c) i0 (by omega) (by rw [shj, show c + (d - c) = d by omega]; exact a3) ((hashAt i0 p0 h00).trans (congrArg (thash P w) hk0))
theorem seek (R : SetG P w s.heap a L es ep t) {x : Addr} {k : List Int} (hx : IsT P w s.heap k x) (hu : A.units < cLine) {Q : SetFound → Shared → Prop} (hin : k ∈ L.map (·.2) → Q (.there none) s)
    (hout : ∀ K, k ∉ L.map (·.2) → way t.mask (thash P w k) K ∉ t.place.toList → (∀ c, c < K → way t.mask (thash P w k) c ∈ t.place.toList) → Q (.free (way t.mask (thash P w k) K) false) s) :
    wpAny (model P w) A (setSearch a (.ref x) (thash P w k) true) Q E s := by
  have hroom := R.room
  obtain ⟨K, hKf, hK, hKb⟩ := R.tab.free (by rw [List.length_map]; omega) (thash P w k)
  have hbig := turns_le R.ms
  unfold setSearch
  refine seek_from R hx hu hKf hK hKb hin (fun hn => hout K hn hK hKb) 100000 0 none rfl (Nat.zero_le _) (by omega) fun i p hp hk => ?_
  have hi : (L.map fun p => thash P w p.2)[i]? = some (thash P w k) := by
    rw [List.getElem?_map, hp, ← hk]
    rfl
  have h1 := (List.getElem?_eq_some_iff.mp hp).1
  have h2 := R.tab.sz
  rw [List.length_map] at h2
  obtain ⟨j, hj⟩ : ∃ j, t.place.toList[i]? = some j := ⟨_, List.getElem?_eq_getElem (by rw [Array.length_toList]; omega)⟩
  obtain ⟨c, hc, e⟩ := R.tab.ahead hK hi hj
  exact ⟨c, Nat.zero_le _, hc, by rw [hj, e]⟩
end
end WT
/-! Sets of many tuples of ints: adding. -/
namespace WT
open PySem PySem.Spec PyProof.Rows L2
theorem grown_5 : SetTable.sizeAbove (SetTable.grown 5) = 32 := by decide +kernel
theorem grown_19 : SetTable.sizeAbove (SetTable.grown 19) = 128 := by decide +kernel
theorem grown_77 : SetTable.sizeAbove (SetTable.grown 77) = 512 := by decide +kernel
theorem grown_307 : SetTable.sizeAbove (SetTable.grown 307) = 2048 := by decide +kernel
theorem grown_1229 : SetTable.sizeAbove (SetTable.grown 1229) = 8192 := by decide +kernel
/-- the next size, where a table is full -/
theorem next_size {m n : Nat} (h : MS m) (h1 : (n - 1) * 5 < m * 3) (h2 : m * 3 ≤ n * 5) (h3 : n ≤ 4900) : ∃ M, MS M ∧ SetTable.sizeAbove (SetTable.grown n) - 1 = M ∧ SetTable.sizeAbove (SetTable.grown n) ≤ 8192 ∧ n * 5 < M * 3 ∧ m ≤ M := by
  rcases h with rfl | rfl | rfl | rfl | rfl | rfl
  · obtain rfl : n = 5 := by omega
    exact ⟨31, .inr (.inl rfl), by rw [grown_5], by rw [grown_5]; decide, by decide, by decide⟩
  · obtain rfl : n = 19 := by omega
    exact ⟨127, .inr (.inr (.inl rfl)), by rw [grown_19], by rw [grown_19]; decide, by decide, by decide⟩
  · obtain rfl : n = 77 := by omega
    exact ⟨511, .inr (.inr (.inr (.inl rfl))), by rw [grown_77], by rw [grown_77]; decide, by decide, by decide⟩
  · obtain rfl : n = 307 := by omega
    exact ⟨2047, .inr (.inr (.inr (.inr (.inl rfl)))), by rw [grown_307], by rw [grown_307]; decide, by decide, by decide⟩
  · obtain rfl : n = 1229 := by omega
    exact ⟨8191, .inr (.inr (.inr (.inr (.inr rfl)))), by rw [grown_1229], by rw [grown_1229]; decide, by decide, by decide⟩
  · omega
section
variable {P : Program} {w : World} {A : Around} {E : Value → Shared → Prop} {s : Shared} {a : Addr} {L : List (Addr × List Int)} {es : Array (Int × Value)} {ep : Nat} {t : SetTable}
/-- all laid anew, in a larger table -/
theorem laid_anew {o : Obj} (ho : s.heap.get? a = some o) (hex : o.ExactSet) (hd : o.data = .set es ep t) (hrows : es.toList = rowsOf P w L) (T : TabG t (L.map fun p => thash P w p.2)) (nd : (L.map (·.2)).Nodup) (tup : ∀ p ∈ L, IsT P w s.heap p.2 p.1)
    (pl : t.plain = true) (ld : w.params.followText "set-order" = true ∨ t.led = true) (few : L.length ≤ 4900) (hfl : L.length ≤ t.mask) {wanted M : Nat} (hw : SetTable.sizeAbove wanted - 1 = M) (hM : MS M) (hw2 : SetTable.sizeAbove wanted ≤ 8192) (hn : L.length * 5 < M * 3) {Q : Unit → Shared → Prop}
    (hQ : ∀ h' L' es' ep' t', Heap.SameBut a s.heap h' → SetG P w h' a L' es' ep' t' → L'.Perm L → Q () { s with heap := h' }) : wpAny (model P w) A (setRelay a wanted) Q E s := by
  have hsl := rows_size hrows
  have hfits : t.fits es.size = true := tab_fits T (by rw [List.length_map]; exact hsl.symm) (by omega)
  obtain ⟨t', order, e, hp, T', em, el, ep'⟩ := relay_ok t (hs := es.map (·.1)) (wanted := wanted) hw hM.mg (by rw [Array.size_map, hsl]; omega)
  rw [Array.size_map, hsl] at hp
  obtain ⟨L2, r1, r2, r3⟩ := order_rows L es order hrows hp
  rw [← r3] at T'
  have hs2 : (order.filterMap (es[·]?)).size = es.size := by rw [rows_size r1, r2.length_eq, hsl]
  rw [setRelay_eq]
  refine wpAny_bind (wpAny_setState_of ho hd hfits ?_)
  dsimp only
  refine wp_if_neg (by rw [sizeLine_eq]; omega) ?_
  try refine wpAny_bind (wpAny_pure ?_)
  rw [e]
  dsimp only
  refine wpAny_bind ?_
  refine wp_if_neg (by rw [hs2]; simp) ?_
  try refine wpAny_bind (wpAny_pure ?_)
  refine wpAny_pure ?_
  dsimp only
  refine wpAny_storeSet_of ho hd ?_ (by rw [hs2, hsl, sizeLine_eq]; omega)
  have sb : Heap.SameBut a s.heap (s.heap.update a (Obj.putSet (order.filterMap (es[·]?)) t')) := Heap.SameBut.update ..
  exact hQ _ L2 _ (ep + 1) t' sb ⟨⟨_, store_at ho hd, ⟨hex.1, hex.2.1, hex.2.2⟩, rfl⟩, r1, T', em ▸ hM, (r2.map (·.2)).nodup_iff.mpr nd, fun p hpm => isT_same (tup p (r2.mem_iff.mp hpm)) ho hd sb,
    ep'.trans pl, by rw [el]; exact ld, by rw [r2.length_eq, em]; exact hn, by rw [r2.length_eq]; exact few⟩ r2
theorem full_of {n : Nat} (hf : t.tooFull = true) (hn : t.fill = n) : t.mask * 3 ≤ n * 5 := by
  unfold SetTable.tooFull at hf
  rw [decide_eq_true_eq, hn] at hf
  omega
theorem room_of {n : Nat} (hf : ¬ t.tooFull = true) (hn : t.fill = n) : n * 5 < t.mask * 3 := by
  unfold SetTable.tooFull at hf
  rw [decide_eq_true_eq, hn] at hf
  omega
/-- adding a tuple -/
theorem put_one (R : SetG P w s.heap a L es ep t) {x : Addr} {k : List Int} (hx : IsT P w s.heap k x) (hu : A.units < cLine) (hfew : L.length + 1 ≤ 4900) {Q : Bool → Shared → Prop}
    (hQ : ∀ b h' L' es' ep' t', Heap.SameBut a s.heap h' → SetG P w h' a L' es' ep' t' → (k ∈ L.map (·.2) → L' = L) → (k ∉ L.map (·.2) → L'.Perm ((x, k) :: L)) → Q b { s with heap := h' }) :
    wpAny (model P w) A (setAddHashed a (.ref x) (thash P w k)) Q E s := by
  obtain ⟨o, ho, hex, hd⟩ := R.ob
  have hsl := rows_size R.rows
  have hroom := R.room
  unfold setAddHashed
  refine wpAny_holding ?_
  rw [show (100000 : Nat) = 99999 + 1 from rfl, setAddHashedIn_succ]
  refine wpAny_bind (wpAny_setState_of ho hd R.fits ?_)
  dsimp only
  refine wp_if_neg (by simp [byScan, Value.scannable]) ?_
  try refine wpAny_bind (wpAny_pure ?_)
  refine wpAny_bind (seek R hx hu (fun hm => ?_) fun K hm hK hb => ?_)
  · exact wpAny_pure (hQ false s.heap L es ep t (Heap.SameBut.refl a s.heap) R (fun _ => rfl) fun z => absurd hm z)
  · dsimp only
    refine wpAny_bind (wpAny_setState_of ho hd R.fits ?_)
    dsimp only
    rcases hpt : t.put (way t.mask (thash P w k) K) with ⟨t1, p⟩
    obtain ⟨q2, q3, q4, q5, q6, q9⟩ := R.tab.put hK hb hpt
    dsimp only
    have hp1 : t1.plain = true := q6.trans R.plain
    first
      | (refine wpAny_bind ?_; refine wp_if_pos hp1 ?_; refine hashBy_tup hx ?_)
      | refine wp_if_pos hp1 (wpAny_bind (hashBy_tup hx ?_))
    simp only [if_true]
    have hin : (SetTable.insertAt es p (thash P w k, Value.ref x)).toList = rowsOf P w (L.take p ++ (x, k) :: L.drop p) := by rw [SetTable.toList_insertAt, rows_put, R.rows]
    have pm := put_perm L p (x, k)
    have hlen : (L.take p ++ (x, k) :: L.drop p).length = L.length + 1 := pm.length_eq
    have hhs : (L.take p ++ (x, k) :: L.drop p).map (fun p => thash P w p.2) = (L.map fun p => thash P w p.2).take p ++ thash P w k :: (L.map fun p => thash P w p.2).drop p := by
      rw [List.map_append, List.map_cons, List.map_take, List.map_drop]
    rw [← hhs] at q3
    have nd1 : ((L.take p ++ (x, k) :: L.drop p).map (·.2)).Nodup := (pm.map (·.2)).nodup_iff.mpr (List.nodup_cons.mpr ⟨hm, R.nd⟩)
    generalize SetTable.insertAt es p (thash P w k, Value.ref x) = es1 at hin ⊢
    generalize L.take p ++ (x, k) :: L.drop p = L1 at pm hlen q3 nd1 hin
    have hes := rows_size hin
    rw [List.length_map] at q9
    refine wpAny_bind (wpAny_storeSet_of ho hd ?_ (by rw [hes, hlen, sizeLine_eq]; omega))
    have sb : Heap.SameBut a s.heap (s.heap.update a (Obj.putSet es1 t1)) := Heap.SameBut.update ..
    have ho1 := store_at (es' := es1) (t' := t1) ho hd
    generalize s.heap.update a (Obj.putSet es1 t1) = h1 at sb ho1 ⊢
    have tup1 : ∀ p ∈ L1, IsT P w h1 p.2 p.1 := fun p hp => by
      rcases List.mem_cons.mp (pm.mem_iff.mp hp) with e | hp
      · exact e ▸ isT_same hx ho hd sb
      · exact isT_same (R.tup p hp) ho hd sb
    have ld1 : w.params.followText "set-order" = true ∨ t1.led = true := by rw [q5]; exact R.led
    by_cases hf : t1.tooFull = true
    · first
        | (refine wpAny_bind ?_; refine wp_if_pos (by simp [hf]) ?_)
        | (refine wp_if_pos (by simp [hf]) ?_; refine wpAny_bind ?_)
      have hfull := full_of hf q9
      rw [q4] at hfull
      obtain ⟨M, g1, g2, g3, g4, g5⟩ := next_size R.ms (n := L.length + 1) (by simpa using hroom) hfull hfew
      rw [hsl]
      refine laid_anew (s := { s with heap := h1 }) ho1 ⟨hex.1, hex.2.1, hex.2.2⟩ rfl hin q3 nd1 tup1 hp1 ld1 (by rw [hlen]; exact hfew) ?_ g2 g1 g3 (by rw [hlen]; exact g4) fun h2 L2 es2 ep2 t2 sb2 R2 pm2 =>
        wpAny_pure (hQ true h2 L2 es2 ep2 t2 (sb.trans sb2) R2 (fun z => absurd z hm) fun _ => pm2.trans pm)
      rw [hlen, q4]
      rcases R.ms with e | e | e | e | e | e <;> omega
    · first
        | refine wp_if_neg (by simp [hf]) ?_
        | (refine wpAny_bind ?_; refine wp_if_neg (by simp [hf]) ?_; refine wpAny_pure ?_)
      have hrm := room_of hf q9
      exact wpAny_pure (hQ true h1 L1 es1 (ep + 1) t1 sb ⟨⟨_, ho1, ⟨hex.1, hex.2.1, hex.2.2⟩, rfl⟩, hin, q3, q4 ▸ R.ms, nd1, tup1, hp1, ld1, by rw [hlen]; exact hrm, by rw [hlen]; exact hfew⟩ (fun z => absurd z hm) fun _ => pm)
theorem SetG.keep {h h' : Heap} (R : SetG P w h a L es ep t) (ha : ∀ o, h.get? a = some o → h'.get? a = some o) (ht : ∀ p ∈ L, IsT P w h' p.2 p.1) : SetG P w h' a L es ep t := by
  obtain ⟨o, ho, r⟩ := R.ob
  exact ⟨⟨o, ha o ho, r⟩, R.rows, R.tab, R.ms, R.nd, ht, R.plain, R.led, R.room, R.few⟩
/-- a new set's object -/
abbrev newSet (w : World) : Obj := { cls := .type "set", dict := none, data := .set #[] 0 (.fresh 0 0 (!w.params.followText "set-order")) }
theorem setG_new {h : Heap} (ho : h.get? a = some (newSet w)) : SetG P w h a [] #[] 0 (.fresh 0 0 (!w.params.followText "set-order")) where
  ob := ⟨_, ho, ⟨rfl, rfl, rfl⟩, rfl⟩
  rows := rfl
  tab := ⟨List.Pairwise.nil, rfl, rfl, ⟨3, by decide, by decide, rfl⟩, fun x hx => (by cases hx), fun i h j hi => (by simp at hi)⟩
  ms := .inl rfl
  nd := List.nodup_nil
  tup := fun p hp => (by cases hp)
  plain := rfl
  led := by
    show _ ∨ (!w.params.followText "set-order") = true
    cases w.params.followText "set-order" <;> simp
  room := show 0 * 5 < 7 * 3 by decide
  few := Nat.zero_le _
end
end WT
/-! Sets of many tuples of ints: set(a list). -/
namespace WT
open PySem PySem.Spec PyProof.Rows L2
section
variable {P : Program} {w : World} {A : Around} {E : Value → Shared → Prop} {s : Shared}
/-- the loop that puts all in -/
theorem put_all {I : Addr} {fp wr : List Addr} {G : Array GenState → Array GenState → Prop} {n : Nat} {Pv : Nat → Value → Prop} {St : Nat → Shared → Prop} {R : Result → Shared → Prop}
    (W : WalksS P w A.in1 I fp wr G n Pv St) (S : Addr) (hSf : S ∉ fp) (ks : List (Addr × List Int)) (hn : n = ks.length) (hfew : ks.length ≤ 4900) (hval : ∀ i v, Pv i v → ∃ p, ks[i]? = some p ∧ v = .ref p.1)
    (h0 : Heap) (hk : ∀ p ∈ ks, IsT P w h0 p.2 p.1) (hS0 : h0.get? S = none) (hw0 : ∀ b ∈ wr, h0.get? b = none) (hu : A.in1.units < cLine) :
    ∀ (k i : Nat) (s : Shared), n - i = k → i ≤ n → St i s → (∀ b o, h0.get? b = some o → s.heap.get? b = some o) → (∃ L es ep t, SetG P w s.heap S L es ep t ∧ Got ks i L) →
      (∀ s' L es ep t, Moved (S :: wr) G s s' → SetG P w s'.heap S L es ep t → Got ks n L → (∀ b o, h0.get? b = some o → s'.heap.get? b = some o) → R (.ok (.ret .none)) s') →
      codeAny (model P w) A (.builtin "set.update.loop" ⟨[.ref S, .ref I], []⟩) R s := by
  have hSw : S ∉ wr := fun h => hSf (W.sub _ h)
  have wide : ∀ {s s' : Shared}, Moved wr G s s' → Moved (S :: wr) G s s' := fun h => h.mono fun b hb => List.mem_cons_of_mem _ hb
  have old : ∀ {s s' : Shared}, Moved wr G s s' → (∀ b o, h0.get? b = some o → s.heap.get? b = some o) → ∀ b o, h0.get? b = some o → s'.heap.get? b = some o := fun hm hkp b o e =>
    hm.heap b o (fun hb => by rw [hw0 b hb] at e; cases e) (hkp b o e)
  have keep : ∀ {s s' : Shared} {i : Nat} {L : List (Addr × List Int)} {es : Array (Int × Value)} {ep : Nat} {t : SetTable}, Moved wr G s s' → (∀ b o, h0.get? b = some o → s.heap.get? b = some o) → SetG P w s.heap S L es ep t → Got ks i L → SetG P w s'.heap S L es ep t := fun hm hkp R g =>
    R.keep (fun o e => hm.heap S o hSw e) fun p hp => isT_keep (hk p (List.mem_of_mem_take (g.sub p hp))) (old hm hkp)
  intro k
  induction k with
  | zero =>
    intro i s hk' hi hst hkp ⟨L, es, ep, t, hS, g⟩ hR
    obtain rfl : i = n := by omega
    refine codeAny_builtin F.entry_set_update_loop ?_
    rw [Around.under_plainId F.plain_set_update_loop _]
    show wpAny _ A.in1 (pyNext (.ref I) >>= _) _ _ s
    refine wpAny_bind (W.done s _ _ hst fun s' hm => ?_)
    show wpAny _ A.in1 (ret Value.none) _ _ s'
    exact wpAny_pure (hR s' L es ep t (wide hm) (keep hm hkp hS g) g (old hm hkp))
  | succ k ih =>
    intro i s hk' hi hst hkp ⟨L, es, ep, t, hS, g⟩ hR
    have hlt : i < n := by omega
    refine codeAny_builtin F.entry_set_update_loop ?_
    rw [Around.under_plainId F.plain_set_update_loop _]
    show wpAny _ A.in1 (pyNext (.ref I) >>= _) _ _ s
    refine wpAny_bind (W.item i s _ _ hlt hst fun v s' hP hst' hm => ?_)
    obtain ⟨p, hp, rfl⟩ := hval i v hP
    have hkp' := old hm hkp
    have hS' := keep hm hkp hS g
    have hx : IsT P w s'.heap p.2 p.1 := isT_keep (hk p (List.mem_of_getElem? hp)) hkp'
    show wpAny _ A.in1 (holding [Value.ref p.1] (setAdd S (.ref p.1)) >>= _) _ _ s'
    refine wpAny_bind (wpAny_holding ?_)
    unfold setAdd
    refine wpAny_holding (wpAny_bind (wpAny_pyHash_tuple hu hx ?_))
    refine put_one (s := { s' with toks := s'.toks + (p.2.length + 1) }) hS' hx hu (by have := g.len; omega) fun b h' L' es' ep' t' hsb hS2 c1 c2 => ?_
    have g' : Got ks (i + 1) L' := by
      by_cases c : p.2 ∈ L.map (·.2)
      · rw [c1 c]
        exact g.same hp c
      · exact g.more hp (c2 c)
    have hkp2 : ∀ b o, h0.get? b = some o → h'.get? b = some o := fun b o e => (hsb.2 b (fun z => by rw [z, hS0] at e; cases e)).trans (hkp' b o e)
    refine wpAny_pure ⟨plainId_quiet F.plain_set_update_loop _, ih (i + 1) _ (by omega) hlt (W.frame _ s' _ _ hst' (Nat.le_add_right _ _) fun b hb o e => ?_) hkp2 ⟨L', es', ep', t', hS2, g'⟩ fun s'' L2 es2 ep2 t2 hm'' hS'' g'' hkp'' => ?_⟩
    · exact (hsb.2 b (fun h : b = S => hSf (h ▸ hb))).trans e
    · refine hR s'' L2 es2 ep2 t2 (Moved.trans W.gtrans ((wide hm).then_heap (Nat.le_add_right _ _) fun b o hb e => ?_) hm'') hS'' g'' hkp''
      exact (hsb.2 b (fun h : b = S => hb (h ▸ List.mem_cons_self))).trans e
/-- set(list of tuples) -/
theorem call_setG {l : Addr} {items : Array Value} {Ez : Value → Shared → Prop} (ks : List (Addr × List Int)) {Qz : Value → Shared → Prop} (hh : A.handled = none) (isl : s.heap.IsList l items) (eqi : items.toList = ks.map fun p => Value.ref p.1)
    (hk : ∀ p ∈ ks, IsT P w s.heap p.2 p.1) (few : ks.length ≤ 4900) (hu : A.units + 3 < cLine)
    (fin : ∀ (h2 : Heap) (tk : Nat) L es ep t, SetG P w h2 s.heap.objs.size L es ep t → Got ks ks.length L → (∀ b o, s.heap.get? b = some o → h2.get? b = some o) → Qz (.ref s.heap.objs.size) { s with heap := h2, toks := tk }) :
    wpAny (model P w) A (call (.type "set") [.ref l]) Qz Ez s := by
  have lenI : items.size = ks.length := by
    have q := congrArg List.length eqi
    rwa [Array.length_toList, List.length_map] at q
  obtain ⟨c, tl, hmro⟩ := F.called_set.mro
  have made0 := F.called_set.made
  have sub0 := F.called_set.sub
  refine wpAny_call (codeAny_of_tree ?_)
  show wpAny _ _ (callAny (.type "set") _) _ _ _
  refine wpAny_pure ⟨Code.quiet_builtin _ (by decide +kernel), codeAny_builtin F.entry_type_call ?_⟩
  rw [Around.under_plain (weight_type_call_type "set" [.ref l] []) rfl]
  have c1 := F.called_set.notType
  have c2 := F.called_set.canCreate
  have c3 := F.typeCall_set_1 (.ref l)
  repeat (any_goals (first | assumption | wp_step))
  refine codeAny_mono (code_set_led1 (.ref l) (E := Ez) (Q₁ := fun o z => o = .ref s.heap.objs.size ∧ z = { s with heap := s.heap.push (newSet w) }) ⟨rfl, rfl⟩) fun r z hr => ?_
  rcases r with e | fl
  · exact hr
  rcases fl with _ | obj | _ | _
  all_goals try exact hr.elim
  obtain ⟨rfl, rfl⟩ := hr
  have gS : (s.heap.push (newSet w)).get? s.heap.objs.size = some (newSet w) := Heap.get?_push_size _ rfl
  have gT : Shared.TypeIs { s with heap := s.heap.push (newSet w) } (.ref s.heap.objs.size) "set" := ⟨_, gS, rfl⟩
  have c4 := F.called_set.init.lookup
  have c5 := F.called_set.init.bind (.ref s.heap.objs.size)
  repeat (any_goals (first | assumption | wp_step))
  refine codeAny_mono (codeAny_call_builtin (R := wants (fun r z => r = .none ∧ ∃ h2 tk L es ep t, z = { s with heap := h2, toks := tk } ∧ SetG P w h2 s.heap.objs.size L es ep t ∧ Got ks ks.length L ∧
      (∀ b o, s.heap.get? b = some o → h2.get? b = some o)) Ez) F.called_set.init.plain F.entry_set_init (check_set_init_1 gT ?_)) fun r2 z2 hr2 => ?_
  · obtain ⟨⟨lc, ld, lx, ls⟩, hol, hcl, nl, hdl⟩ := isl
    simp only at hcl hdl
    subst hcl
    subst hdl
    have l1 : (s.heap.push (newSet w)).IsList l items := ⟨_, Heap.get?_push_of_some _ hol, rfl, nl, rfl⟩
    have l0 := Heap.get?_push_of_some (newSet w) hol
    have d1 := F.sub_list_set
    have d2 := F.sub_list_frozenset
    have d3 : (Value.type "list" == Value.type "dict") = false := by decide
    unfold Builtin.«set.__init__» noKeywords Builtin.Frozenset.updateFrom
    generalize hPI : pyIter = PI
    wp_walk
    subst hPI
    refine wpAny_pyIter_list l1 ?_
    refine wpAny_bind (wpAny_runValue ?_)
    have lt1 : l < s.heap.objs.size := Heap.lt_size hol
    have sz1 : (s.heap.push (newSet w)).objs.size = s.heap.objs.size + 1 := Heap.size_push ..
    have n1 : l ≠ (s.heap.push (newSet w)).objs.size := by
      rw [sz1]
      exact Nat.ne_of_lt (Nat.lt_succ_of_lt lt1)
    have n2 : s.heap.objs.size ∉ [(s.heap.push (newSet w)).objs.size, l] := by
      rw [sz1]
      simp only [List.mem_cons, List.not_mem_nil, or_false, not_or]
      exact ⟨Nat.ne_of_lt (Nat.lt_succ_self _), Nat.ne_of_gt lt1⟩
    have vals : ∀ (i : Nat) (v : Value), items[i]? = some v → ∃ p, ks[i]? = some p ∧ v = .ref p.1 := fun i v hv => by
      rw [← Array.getElem?_toList, eqi, List.getElem?_map] at hv
      obtain ⟨p, h1, h2⟩ := Option.map_eq_some_iff.mp hv
      exact ⟨p, h1, h2.symm⟩
    have no : ∀ b, s.heap.objs.size ≤ b → s.heap.get? b = none := fun b hb => by
      cases q : s.heap.get? b with
      | none => rfl
      | some o => exact absurd (Heap.lt_size q) (Nat.not_lt_of_le hb)
    refine put_all ((Walks.list (show A.in1.in1.in1.handled = none by simp [hh]) _ l n1 items).toS) s.heap.objs.size n2 ks lenI few vals s.heap hk (no _ (Nat.le_refl _))
      (fun b hb => no b (by rw [List.mem_singleton.mp hb, sz1]; exact Nat.le_succ _)) hu items.size 0 _ (by omega) (Nat.zero_le _) ⟨⟨_, Heap.get?_push_size _ rfl, rfl, rfl⟩, l1.push _⟩
      (fun b o e => Heap.get?_push_of_some _ (Heap.get?_push_of_some _ e)) ⟨[], #[], 0, _, setG_new (Heap.get?_push_of_some _ gS), Got.zero ks⟩ fun z3 L es ep t hm hG hg hkp => ?_
    obtain ⟨h3, g3, d4, tk3, os3⟩ := z3
    have e1 : g3 = s.gens := hm.gens
    have e2 : d4 = s.drawn := hm.drawn
    have e3 : os3 = s.os := hm.os
    subst e1
    subst e2
    subst e3
    show wpAny _ _ _ _ _ _
    refine wpAny_pure ?_
    show wpAny _ _ (ret Value.none) _ _ _
    rw [lenI] at hg
    exact wpAny_pure ⟨rfl, h3, tk3, L, es, ep, t, rfl, hG, hg, hkp⟩
  · rcases r2 with e | fl
    · exact hr2
    rcases fl with _ | r | _ | _
    all_goals try exact hr2.elim
    obtain ⟨rfl, h2, tk, L, es, ep, t, rfl, hG, hg, hkp⟩ := hr2
    repeat (any_goals (first | assumption | wp_step))
    exact fin _ _ _ _ _ _ hG hg hkp
/-- two sets of the same tuples are as long -/
theorem got_len {ks L : List (Addr × List Int)} (g : Got ks ks.length L) (nd : (L.map (·.2)).Nodup) (u : List (List Int)) (hu : u.Nodup) (hm : ∀ k, k ∈ u ↔ k ∈ ks.map (·.2)) : L.length = u.length := by
  have p : (L.map (·.2)).Perm u := (List.perm_ext_iff_of_nodup nd hu).mpr fun k => by
    rw [hm k, List.mem_map, List.mem_map]
    constructor
    · rintro ⟨q, h1, rfl⟩
      exact ⟨q, List.mem_of_mem_take (g.sub q h1), rfl⟩
    · rintro ⟨q, h1, rfl⟩
      exact List.mem_map.mp (g.all q (by rw [List.take_length]; exact h1))
  have := p.length_eq
  rwa [List.length_map] at this
end
end WT
/-! len(set(a list of tuples of ints)), up to some thousands. -/
namespace WT
open PySem PySem.Spec PyProof.Rows L2 Evl
def tLenSetG (K : PySem.W.Frag) (ta : TE) : TE := fun σ H Q => ta σ H fun x H1 => ∃ (l : Addr) (ks : List (Addr × List Int)), x = .ref l ∧ SqL K H1 l (ks.map fun p => V.ref p.1) ∧ (∀ p ∈ ks, SqT K H1 p.1 (p.2.map V.int)) ∧ ks.length ≤ 4900 ∧
  ∀ u : List (List Int), u.Nodup → (∀ k, k ∈ u ↔ k ∈ ks.map (·.2)) → Q (.int (u.length : Int)) H1
theorem pe_lenSetG {X : Cx} {a : Expr} {ta : TE} {p p2 q pos : Pos} (hg : Gl X "len") (hm : X.mg "len" = none) (hg2 : Gl X "set") (hm2 : X.mg "set" = none) (ha : PE X a ta) (hu : X.A.units + 64 < cLine) (hc : X.calm = true := by rfl)
    (na : starEach [a] X.env = (false, eval a X.env) :: starEach [] X.env := by rfl) : PE X (.Call (.Name "len" p) [.Call (.Name "set" p2) [a] [] q] [] pos) (tLenSetG X.K ta) := by
  refine ⟨fun pins s σ H Q I h => ?_⟩
  refine Call_ (ld_blt I hg hm boot_len ?_)
  refine PyProof.Rows.callWith_builtin1 (PyProof.Rows.args_cons ?_ rfl) rfl rfl
  refine Call_ (ld_blt I hg2 hm2 boot_set ?_)
  refine PyProof.Rows.callWith_type1 (PyProof.Rows.args_cons (L2.thn (ha.run pins s σ H _ I h) fun v s1 ⟨x, H1, I1, r1, q1⟩ => PyProof.Rows.args_nil ?_) na) na rfl
  obtain ⟨l, ks, rfl, hq, hk, hz, k⟩ := q1
  cases (show v = Value.ref l from r1)
  obtain ⟨its, rv, pl, _⟩ := I1.list hq
  refine call_setG (P := X.prog) (w := X.w) ks (I1.ok.hd hc) pl.isList (by simpa using refs_of_vals rv) (fun p hp => I1.isT (hk p hp)) hz (by omega) fun h2 tk L es ep t R g kp => ?_
  refine PyProof.Rows.args_nil ?_
  obtain ⟨o, ho, hex, hd⟩ := R.ob
  have I2 : Inv X pins σ H1 { s1 with heap := h2, toks := tk } := I1.kept (t' := tk) kp
  have hn := rows_size R.rows
  have e1 := k (L.map (·.2)) R.nd fun j => ⟨fun hj => by
    obtain ⟨z, hz, rfl⟩ := List.mem_map.mp hj
    exact List.mem_map.mpr ⟨z, List.mem_of_mem_take (g.sub z hz), rfl⟩, fun hj => by
    obtain ⟨z, hz, rfl⟩ := List.mem_map.mp hj
    exact g.all z (by rw [List.take_length]; exact hz)⟩
  rw [List.length_map, ← hn] at e1
  have hf := R.few
  exact call_len_set ho hex hd (tab_fits R.tab (by rw [List.length_map]; exact hn.symm) (by have := R.room; omega)) (by omega) ⟨.int es.size, H1, I2.tok _, ⟨_, rfl⟩, e1⟩
section
variable {K : PySem.W.Frag} {σ : L2.St} {H : Hp} {ta : TE}
theorem fzl_tups {cs : List (List Nat)} {xs : List V} : FzL K H (cs.map tN) xs → ∃ ks : List (Addr × List Int), xs = ks.map (fun p => V.ref p.1) ∧ (ks.map (·.2)) = cs.map (fun c => c.map fun n : Nat => (n : Int)) ∧ ∀ p ∈ ks, SqT K H p.1 (p.2.map V.int) := by
  induction cs generalizing xs with
  | nil =>
    intro h
    rw [fzl_nilI h]
    exact ⟨[], rfl, rfl, fun p hp => by cases hp⟩
  | cons c cs ih =>
    intro h
    obtain ⟨v, r, rfl, h1, h2⟩ := fzl_consI h
    obtain ⟨a, rfl, ha⟩ := fz_tN.mp h1
    obtain ⟨ks, rfl, e, hk⟩ := ih h2
    refine ⟨(a, c.map fun n : Nat => (n : Int)) :: ks, rfl, by rw [List.map_cons, List.map_cons, e], fun p hp => ?_⟩
    rcases List.mem_cons.mp hp with z | z
    · rw [z]
      have := st_of (K := K) ha
      unfold vN at this
      rw [List.map_map]
      exact this
    · exact hk p z
/-- how many unlike tuples a new list has -/
theorem ev_lenSetG {cs : List (List Nat)} (h : El K ta σ H (cs.map tN)) (hl : cs.length ≤ 4900) (c : Nat) (hc : ∀ u : List (List Nat), u.Nodup → (∀ k, k ∈ u ↔ k ∈ cs) → u.length = c) : Ev (tLenSetG K ta) σ H (.int (c : Int)) := fun H1 e Q q => h H1 e _ fun p xs H2 _ e2 hx f => by
  obtain ⟨ks, rfl, ek, hk⟩ := fzl_tups f
  have el : ks.length = cs.length := by
    have := congrArg List.length ek
    rwa [List.length_map, List.length_map] at this
  refine ⟨p, ks, rfl, sq_of hx, hk, by omega, fun u hu hm => ?_⟩
  have inj : ∀ x y : List Nat, (x.map fun n : Nat => (n : Int)) = (y.map fun n : Nat => (n : Int)) → x = y := fun x y z => map_inj (fun _ _ w => Int.ofNat.inj w) z
  have back : ∀ k ∈ u, ∃ c ∈ cs, k = c.map fun n : Nat => (n : Int) := fun k hk => by
    have z := (hm k).mp hk
    rw [ek] at z
    obtain ⟨c, h1, h2⟩ := List.mem_map.mp z
    exact ⟨c, h1, h2.symm⟩
  obtain ⟨u', rfl⟩ : ∃ u' : List (List Nat), u = u'.map fun c => c.map fun n : Nat => (n : Int) := by
    clear hm hu
    induction u with
    | nil => exact ⟨[], rfl⟩
    | cons a u ih =>
      obtain ⟨c, _, rfl⟩ := back a List.mem_cons_self
      obtain ⟨u', rfl⟩ := ih fun k hk => back k (List.mem_cons_of_mem _ hk)
      exact ⟨c :: u', rfl⟩
  rw [List.length_map, hc u' (Pairwise_of_map' hu) fun k => ?_]
  · exact q H2 e2
  · have z := hm (k.map fun n : Nat => (n : Int))
    rw [ek] at z
    constructor
    · intro hk
      obtain ⟨c, h1, h2⟩ := List.mem_map.mp (z.mp (List.mem_map.mpr ⟨k, hk, rfl⟩))
      exact inj _ _ h2 ▸ h1
    · intro hk
      obtain ⟨c, h1, h2⟩ := List.mem_map.mp (z.mpr (List.mem_map.mpr ⟨k, hk, rfl⟩))
      exact inj _ _ h2 ▸ h1
where Pairwise_of_map' {u : List (List Nat)} (h : (u.map fun c => c.map fun n : Nat => (n : Int)).Nodup) : u.Nodup := List.Pairwise.of_map _ (fun _ _ hne e => hne (by rw [e])) h
end
end WT
/-! Toolkit K: calls by keywords, in any sequence; is, is not of bools; comparing lists. -/
namespace WT
open PySem PySem.Spec PyProof.Rows L2 Evl
/-- n values by place, m by keyword; the i-th parameter is the one at q i of both, one list behind the other -/
def gKw (n m : Nat) (q : List Nat) {α : Type} (us ws : List α) : List α := if us.length = n ∧ ws.length = m then q.filterMap (fun i => (us ++ ws)[i]?) else []
theorem vals_app : ∀ {vs zs : List V} {us ws : List Value}, Vals vs us → Vals zs ws → Vals (vs ++ zs) (us ++ ws)
  | _, _, _, _, .nil, h => h
  | _, _, _, _, .cons r t, h => .cons r (vals_app t h)
theorem vals_none : ∀ {vs : List V} {us : List Value} {i : Nat}, Vals vs us → vs[i]? = none → us[i]? = none
  | _, _, _, .nil, _ => by simp
  | _, _, 0, .cons _ _, e => by simp at e
  | _, _, i + 1, .cons _ t, e => by
    have := vals_none (i := i) t (by simpa using e)
    simpa using this
theorem vals_some : ∀ {vs : List V} {us : List Value} {i : Nat} {v : V}, Vals vs us → vs[i]? = some v → ∃ u, us[i]? = some u ∧ RelV v u
  | _, _, _, _, .nil, e => by simp at e
  | _, _, 0, _, .cons r _, e => by
    cases (Option.some.inj e)
    exact ⟨_, rfl, r⟩
  | _, _, i + 1, _, .cons _ t, e => by
    obtain ⟨u, h1, h2⟩ := vals_some (i := i) t (by simpa using e)
    exact ⟨u, by simpa using h1, h2⟩
theorem vals_pick {vs : List V} {us : List Value} (h : Vals vs us) : ∀ q : List Nat, Vals (q.filterMap fun i => vs[i]?) (q.filterMap fun i => us[i]?)
  | [] => .nil
  | i :: q => by
    cases e : vs[i]? with
    | none =>
      rw [List.filterMap_cons_none e, List.filterMap_cons_none (vals_none h e)]
      exact vals_pick h q
    | some v =>
      obtain ⟨u, h1, h2⟩ := vals_some h e
      rw [List.filterMap_cons_some e, List.filterMap_cons_some h1]
      exact .cons h2 (vals_pick h q)
theorem gKw_rel {n m : Nat} {q : List Nat} {vs zs : List V} {us ws : List Value} (h : Vals vs us) (k : Vals zs ws) : Vals (gKw n m q vs zs) (gKw n m q us ws) := by
  unfold gKw
  rw [h.length, k.length]
  split
  · exact vals_pick (vals_app h k) q
  · exact .nil
theorem gKw_len {n m : Nat} {q : List Nat} {α : Type} {us ws : List α} {l : Nat} (h : (gKw n m q us ws).length = l + 1) : us.length = n ∧ ws.length = m := by
  unfold gKw at h
  split at h
  · assumption
  · cases h
section
variable {X : Cx} {k : Nat} {x : Str} {p pos : Pos} {tk : TA} {ps ks : List Str} {sp : Sp} {st : Stmt} {kws : List Keyword}
/-- f(k = b, ..) -/
theorem pe_fnK0 {g : List Value → List Value → List Value} {gV : List V → List V → List V} (o : Okd X.prog X.w X.K X.mg X.base x ps st k sp) (hr : Room k X.A) (hb : ∀ (f : Addr) (fd : FuncData), Fun X.K x x st f fd → KBinds X.K fd ps ks g gV) (hkw : PK X kws tk)
    (hall : (backToKw pos (keywordEach kws X.env)).all (·.1.isSome) = true := by rfl) (hks : (backToKw pos (keywordEach kws X.env)).filterMap (·.1) = ks := by rfl) (hg : Gl X x := by rfl)
    (hdb : (x == ("__debug__" : Str)) = false := by decide)
    (hpl : ((backTo pos (starEach [] X.env)).any (·.1) || (backToKw pos (keywordEach kws X.env)).any (·.1.isNone)) = false := by rfl) : PE X (.Call (.Name x p) [] kws pos) (tCallK sp gV E0 tNil tk) := by
  obtain ⟨f, fd, gm, F, b, G⟩ := o
  refine ⟨fun pins s σ H Q I h => ?_⟩
  refine wpAny_Call_Name_kw (ld_glob I hg gm ?_ hdb)
  refine PySem.W.callWith_KW0 (h₀ := X.base) I.ok.mod.kin F.kp hall (L2.thn (hkw.run pos pins s σ H _ I h) fun ws s2 ⟨zs, H2, I2, rz, q2⟩ => ⟨I2.kIn, ?_⟩) hpl
  rw [hks]
  exact run_fnk G hr (hb f fd F) pass0 I2 .nil rz q2
end
section
variable {K : PySem.W.Frag} {σ : L2.St} {H : Hp} {ta tb te : TE} {tr tk : TA} {ds es : List PyData} {d e : PyData}
theorem agl_get : ∀ {as : List Ag} {xs : List V} {i : Nat}, AgL K H as xs → (∀ a, as[i]? = some a → ∃ v, xs[i]? = some v ∧ AgO K H a v) ∧ (as[i]? = none → xs[i]? = none)
  | [], _, i, h => by
    rw [show _ = [] from h]
    simp
  | a :: as, _, 0, ⟨v, r, h, h1, h2⟩ => by
    subst h
    exact ⟨fun b hb => by cases hb; exact ⟨v, rfl, h1⟩, fun hb => by simp at hb⟩
  | a :: as, _, i + 1, ⟨v, r, h, h1, h2⟩ => by
    subst h
    simpa using agl_get (i := i) h2
theorem agl_pick {as : List Ag} {xs : List V} (h : AgL K H as xs) : ∀ q : List Nat, AgL K H (q.filterMap fun i => as[i]?) (q.filterMap fun i => xs[i]?)
  | [] => rfl
  | i :: q => by
    obtain ⟨h1, h2⟩ := agl_get (i := i) h
    cases e : as[i]? with
    | none =>
      rw [List.filterMap_cons_none e, List.filterMap_cons_none (h2 e)]
      exact agl_pick h q
    | some a =>
      obtain ⟨v, e2, r⟩ := h1 a e
      rw [List.filterMap_cons_some e, List.filterMap_cons_some e2]
      exact ⟨v, _, rfl, r, agl_pick h q⟩
theorem agl_kw {n m : Nat} {q : List Nat} {as bs : List Ag} {xs ys : List V} (h : AgL K H as xs) (k : AgL K H bs ys) : AgL K H (gKw n m q as bs) (gKw n m q xs ys) := by
  unfold gKw
  rw [agl_len h, agl_len k]
  split
  · exact agl_pick (agl_app h k) q
  · rfl
/-- f(a, .., k = b, ..) -/
theorem ed_callKw {n m : Nat} {q : List Nat} {sp : Sp} {E : XK} {as bs cs : List Ag} (h : Ea K tr σ H as) (k : Ea K tk σ H bs) (hs : Pr K sp cs H d) (hc : gKw n m q as bs = cs := by rfl) : Ed K (tCallK sp (gKw n m q) E tr tk) σ H d := fun H1 e Q z =>
  h H1 e _ fun vs H2 e2 hv => k H2 (e.trans e2) _ fun zs H3 e3 hz => by
    have a := agl_kw (n := n) (m := m) (q := q) (agl_ex e3 hv) hz
    rw [hc] at a
    exact hs H3 ((e.trans e2).trans e3) _ a Q (fun v H4 e4 f => z v H4 ((e2.trans e3).trans e4) f) E
theorem ev_notB {a b : Bool} (h : Ev ta σ H (.bl a)) (k : Ev tb σ H (.bl b)) : Ev (tOp rNotB ta tb) σ H (.bl (!decide (a = b))) := fun H1 e Q q => h H1 e _ fun H2 e2 => k H2 (e.trans e2) _ fun H3 e3 => ⟨a, b, rfl, rfl, q H3 (e2.trans e3)⟩
theorem ev_isB {a b : Bool} (h : Ev ta σ H (.bl a)) (k : Ev tb σ H (.bl b)) : Ev (tOp rIsB ta tb) σ H (.bl (decide (a = b))) := fun H1 e Q q => h H1 e _ fun H2 e2 => k H2 (e.trans e2) _ fun H3 e3 => ⟨a, b, rfl, rfl, q H3 (e2.trans e3)⟩
/-- what evaluates to data, lists among it -/
def Edp (K : PySem.W.Frag) (te : TE) (σ : L2.St) (H : Hp) (d : PyData) : Prop := ∀ H1, Ex H H1 → ∀ Q : VK, (∀ v H2, Ex H1 H2 → (∀ H3, Ex H2 H3 → Dp K H3 v d) → Q v H2) → te σ H1 Q
theorem edp_ed (h : Ed K ta σ H d) : Edp K ta σ H d := fun H1 e Q q => h H1 e _ fun v H2 e2 f => q v H2 e2 fun H3 e3 => fz_dp _ _ (fz_ex e3 f)
theorem edp_el (h : El K ta σ H ds) : Edp K ta σ H (.list ds) := fun H1 e Q q => h H1 e _ fun p xs H2 _ e2 hp f => q _ H2 e2 fun H3 e3 => fzl_dpl (sq_of (e3 _ _ hp)) (fzl_ex e3 f)
theorem edp_var {p : Addr} {xs : List V} (h : Ev ta σ H (.ref p)) (hp : H p = some (.lst xs)) (f : FzL K H ds xs) : Edp K ta σ H (.list ds) := fun H1 e Q q => h H1 e _ fun H2 e2 => q _ H2 e2 fun H3 e3 => fzl_dpl (sq_of (((e.trans e2).trans e3) _ _ hp)) (fzl_ex ((e.trans e2).trans e3) f)
theorem ev_eqP (h : Edp K ta σ H d) (k : Edp K tb σ H e) (pd : SeqAt.shaped d = true) (pe : SeqAt.shaped e = true) : Ev (tOp (rEqD K) ta tb) σ H (.bl (PyData.eqv d e)) := fun H1 e1 Q q =>
  h H1 e1 _ fun v H2 e2 f => k H2 (e1.trans e2) _ fun w H3 e3 g => ⟨_, _, f H3 e3, g H3 (Ex.refl _), pd, pe, q H3 (e2.trans e3)⟩
theorem ev_neP (h : Edp K ta σ H d) (k : Edp K tb σ H e) (pd : SeqAt.shaped d = true) (pe : SeqAt.shaped e = true) : Ev (tOp (rNeD K) ta tb) σ H (.bl (!PyData.eqv d e)) := fun H1 e1 Q q =>
  h H1 e1 _ fun v H2 e2 f => k H2 (e1.trans e2) _ fun w H3 e3 g => ⟨_, _, f H3 e3, g H3 (Ex.refl _), pd, pe, q H3 (e2.trans e3)⟩
/-- two lists of plain data are the same -/
theorem eqv_list {ds es : List PyData} (h1 : ∀ d ∈ ds, plain d = true) (h2 : ∀ d ∈ es, plain d = true) : PyData.eqv (.list ds) (.list es) = true ↔ ds = es := by
  have := eqv_iffL ds es (plainL_all h1) (plainL_all h2)
  simpa only [PyData.eqv] using this
end
end WT
/-! The law's own look at a frame. -/
namespace WT
open PySem PySem.Spec PyProof.Rows L2 Evl
abbrev s_law_right : Stmt := top 40
abbrev N_law_right : List Str := ["pot", "lap", "picture", "many", "every", "kept", "told", "pairs", "least", "position", "pair"]
theorem sc_law_right : FnScope N_law_right ["pot"] (defScope s_law_right) := ⟨rfl, rfl, rfl, by decide +kernel, rfl, by decide +kernel, by decide +kernel⟩
section
variable {K : PySem.W.Frag}
theorem kb_frame : ∀ (f : Addr) (fd : FuncData), Fun K "frame" "frame" s_frame f fd → KBinds K fd ["picture"] ["picture"] (gKw 0 1 [0]) (gKw 0 1 [0]) := fun f fd F => kbOf F gKw_rel fun kV doc pm an cdv ct us ws hl => by
  obtain ⟨h1, h2⟩ := gKw_len hl
  match us, ws, h1, h2 with
  | [], [a], _, _ => rfl
theorem kb_least_picture : ∀ (f : Addr) (fd : FuncData), Fun K "least_picture" "least_picture" s_least_picture f fd → KBinds K fd ["picture"] ["picture"] (gKw 0 1 [0]) (gKw 0 1 [0]) := fun f fd F => kbOf F gKw_rel fun kV doc pm an cdv ct us ws hl => by
  obtain ⟨h1, h2⟩ := gKw_len hl
  match us, ws, h1, h2 with
  | [], [a], _, _ => rfl
theorem kb_shows_frame : ∀ (f : Addr) (fd : FuncData), Fun K "shows_frame" "shows_frame" s_shows_frame f fd → KBinds K fd ["picture", "value"] ["value"] (gKw 1 1 [0, 1]) (gKw 1 1 [0, 1]) := fun f fd F => kbOf F gKw_rel fun kV doc pm an cdv ct us ws hl => by
  obtain ⟨h1, h2⟩ := gKw_len hl
  match us, ws, h1, h2 with
  | [a], [b], _, _ => rfl
theorem dedup_of {α : Type} [DecidableEq α] : ∀ l : List α, ∃ ds : List α, ds.Nodup ∧ ∀ d, d ∈ ds ↔ d ∈ l
  | [] => ⟨[], List.nodup_nil, fun _ => Iff.rfl⟩
  | a :: l => by
    obtain ⟨ds, h1, h2⟩ := dedup_of l
    by_cases h : a ∈ ds
    · exact ⟨ds, h1, fun d => by
        rw [List.mem_cons, h2]
        exact ⟨.inr, fun z => z.elim (fun e => e ▸ (h2 a).mp h) id⟩⟩
    · exact ⟨a :: ds, List.nodup_cons.mpr ⟨h, h1⟩, fun d => by rw [List.mem_cons, List.mem_cons, h2]⟩
theorem alike_pair {k : Nat} {M : List (List Nat)} (a b : List Nat) : PySem.W.alike (pairD k M a) (pairD k M b) = true := by
  unfold pairD
  rw [PySem.W.alike]
  simp only [PySem.W.alikeAll, tN_alike, Bool.and_true]
theorem c_callK {sp : Sp} {gV : List V → List V → List V} {E : XK} {tr tk : TA} {σ : L2.St} {H : Hp} {Q : VK} (h : tr σ H fun vs H1 => tk σ H1 fun zs H2 => sp (gV vs zs) H2 Q E) : tCallK sp gV E tr tk σ H Q := h
theorem int_shown {n : Nat} (h : n ≤ 1000) : (PyData.int (n : Int)).showable = true ∧ (PyData.int (n : Int)).depth ≤ 50 ∧ (PyData.int (n : Int)).shown.length ≤ sizeLine := by
  have hs : PyData.intsShort 13 (.int (n : Int)) = true := by
    simp only [PyData.intsShort]
    exact decide_eq_true (PyData.shown_int_le (i := (n : Int)) (by omega))
  have hw : ((n : Int).natAbs).log2 < 10 ∨ n = 0 := by
    by_cases z : n = 0
    · exact .inr z
    · left
      rw [show (n : Int).natAbs = n from rfl, Nat.log2_lt z]
      omega
  refine ⟨?_, by simp only [PyData.depth]; omega, ?_⟩
  · simp only [PyData.showable, decide_eq_true_eq]
    rcases hw with z | z
    · omega
    · subst z
      decide
  · refine PyData.shown_fits_of_layable0 (B := 13) (by decide) (by decide) ?_ hs
    unfold PyData.layable0
    have hd : PyData.depth (.int (n : Int)) ≤ 64 := by
      simp only [PyData.depth]
      omega
    have hw2 : PyData.weight (.int (n : Int)) ≤ 2 ^ 20 := by
      simp only [PyData.weight]
      split
      · omega
      · rcases hw with z | z
        · omega
        · subst z
          decide
    rw [decide_eq_true hd, decide_eq_true hw2, plain_lay _ (plain_int _).1]
    rfl
theorem least_shown {k : Nat} {A : List (List Nat)} {p : List Nat} (hA : Pic k A) (hp : IsP k p) : (PyData.tuple [tNN A, tN p]).showable = true ∧ (PyData.tuple [tNN A, tN p]).depth ≤ 50 ∧ (PyData.tuple [tNN A, tN p]).shown.length ≤ sizeLine := by
  obtain ⟨a1, a2, a3⟩ := pic_small hA
  have hk := hA.le
  obtain ⟨b1, b2, b3⟩ := row_small (r := p) fun x hx => by
    have := List.mem_range.mp (hp.subset hx)
    omega
  have hl := isP_len hp
  have hd : (PyData.tuple [tNN A, tN p]).depth ≤ 3 := by
    have ha := (tNN_plain A).2
    have hb := (tN_plain p).2
    simp only [PyData.depth, PyData.depthAll]
    omega
  have s1 : PyData.showable (tN p) = true := by
    rw [tN_e]
    simp only [PyData.showable, b3]
  have s2 : PyData.intsShort 13 (tN p) = true := by
    rw [tN_e]
    simp only [PyData.intsShort, b1]
  have s3 : PyData.weight (tN p) ≤ 30 := by
    rw [tN_e]
    simp only [PyData.weight]
    omega
  refine ⟨by simp only [PyData.showable, PyData.showableAll, a3, s1, Bool.and_true], by omega, ?_⟩
  refine PyData.shown_fits_of_layable0 (B := 13) (by decide) (by decide) ?_ ?_
  · unfold PyData.layable0
    rw [decide_eq_true (show PyData.depth _ ≤ 64 by omega)]
    have hw : PyData.weight (.tuple [tNN A, tN p]) ≤ 2 ^ 20 := by
      simp only [PyData.weight, PyData.weightAll]
      omega
    rw [decide_eq_true hw, plain_lay (.tuple [tNN A, tN p]) (by simp only [plain, plainL, (tNN_plain A).1, (tN_plain p).1, Bool.and_true])]
    rfl
  · simp only [PyData.intsShort, PyData.intsShortAll, a1, s2, Bool.and_true]
theorem fzl_rows {H : Hp} : ∀ {cs : List (List Nat)} {zs : List (List Int × Addr)}, zs.map (·.1) = cs.map iN → (∀ z ∈ zs, H z.2 = some (.tup (z.1.map V.int))) → FzL K H (cs.map tN) (zs.map fun z => V.ref z.2)
  | [], [], _, _ => fzl_nil
  | [], _ :: _, e, _ => by simp at e
  | _ :: _, [], e, _ => by simp at e
  | c :: cs, z :: zs, e, h => by
    rw [List.map_cons, List.map_cons] at e
    injection e with e1 e2
    refine fzl_cons (fz_tN.mpr ⟨z.2, rfl, ?_⟩) (fzl_rows e2 fun y hy => h y (List.mem_cons_of_mem _ hy))
    rw [h z List.mem_cons_self, e1]
    unfold iN vN
    rw [List.map_map]
    rfl
end
section
variable {P : Program} {w : World} {K : PySem.W.Frag} {mg : Str → Option Value} {base : Heap}
theorem ok_right (B : Bt mg) (o_law_picture_drawn : Okd P w K mg base "_law_picture_drawn" ["pot", "most"] s_law_picture_drawn 2 (spPic K)) (o_law_every : Okd P w K mg base "_law_every" ["many"] s_law_every 1 (spEvery K))
    (o_law_moved : Okd P w K mg base "_law_moved" ["picture", "position"] s_law_moved 1 (spD K 2 rMoved)) (o_frame : Okd P w K mg base "frame" ["picture"] s_frame 9 (spFrame K)) (o_keeps : Okd P w K mg base "keeps" ["picture", "position"] s_keeps 5 (spD K 2 rKeeps))
    (o_law_all : Okd P w K mg base "_law_all" ["many", "turns", "most"] s_law_all 2 (spAll K)) (o_shows_frame : Okd P w K mg base "shows_frame" ["picture", "value"] s_shows_frame 8 (spD K 2 rShowF)) (o_law_code : Okd P w K mg base "_law_code" ["picture"] s_law_code 1 (spD K 1 rCodeN))
    (o_least_picture : Okd P w K mg base "least_picture" ["picture"] s_least_picture 4 (spD K 1 rLeast)) (d : DefIn K mg "_law_right" ["pot"] s_law_right) : Okg P w K mg base "_law_right" ["pot"] s_law_right 10 (spRight K) := by
  refine Okg.mk d sc_law_right (fun vs H Q E h => ?_) (fun f cdv A outer s H vs Q E hgd hr h => ?_)
  · obtain ⟨p, rfl, _⟩ := h
    rfl
  obtain ⟨p, rfl, hP, k⟩ := h
  refine ⟨_, (pss_cons (ps_for PassesOwn.never rfl (pi_range1 (by rfl) B.range (pa_cons pe_int pa_nil)) (pg_name (i := 1) sc_law_right.nd rfl (Or.inl rfl)) (pss_cons (ps_set (i := 2) sc_law_right.nd rfl (Or.inr rfl) (pe_fn o_law_picture_drawn (hr.mono (by decide)) (pa_cons (pv 0) (pa_cons pe_int pa_nil))))
        (pss_cons (ps_par (i := 3) (j := 4) (by rfl) sc_law_right.nd rfl rfl (by decide) rfl rfl (pa_cons (pe_callB call_len_seq (by rfl) B.len boot_len (pa_cons (pv 2) pa_nil)) (pa_cons (pe_fn o_law_every (hr.mono (by decide)) (pa_cons (pe_callB call_len_seq (by rfl) B.len boot_len (pa_cons (pv 2) pa_nil)) pa_nil)) pa_nil)) (by rfl))
        (pss_cons (ps_set (i := 5) sc_law_right.nd rfl (Or.inr rfl) (pe_lc (own := [("position", 9)]) rfl sc_law_right.nd (pi_list (pv 4)) (blkOk_by (own := [("position", 9)]) (N := N_law_right) (sc := defScope s_law_right) (by decide +kernel)) (fun _ _ _ _ _ => pg_name (i := 9) sc_law_right.nd rfl (Or.inl rfl)) (fun _ _ _ _ _ => (pts_one (pt_cmpR (oK (K := K) (r := rEqD) (op_eqD (room64 hr)) rfl) (pe_fn o_law_moved (hr.mono (by decide)) (pa_cons (pv 2) (pa_cons (pv 9) pa_nil))) (pv 2) (nomark _)))) (fun _ _ _ _ _ => (pv 9))))
        (pss_cons (ps_set (i := 6) sc_law_right.nd rfl (Or.inl rfl) (pe_fnK0 o_frame (hr.mono (by decide)) kb_frame (pk_cons (pv 2) pk_nil)))
        (pss_cons (ps_if (PW.pt (pw_or (pt_cmpR op_ne (pe_callB call_len_seq (by rfl) B.len boot_len (pa_cons (pv 6) pa_nil)) pe_int (nomark _)) (pw_or (pt_cmpR op_ne (pe_callB (call_reprD hgd (room64 hr)) (by rfl) B.repr boot_repr (pa_cons (pe_ix ix_tup (pv 6) pe_int (fun _ _ => rfl)) pa_nil)) (pe_callB (call_reprD hgd (room64 hr)) (by rfl) B.repr boot_repr (pa_cons (pe_callB call_len_seq (by rfl) B.len boot_len (pa_cons (pv 5) pa_nil)) pa_nil)) (nomark _)) (pw_or1 (pt_not (pt_val (pe_callB call_isi (by rfl) B.isinstance boot_isinstance (pa_cons (pe_ix ix_tup (pv 6) pe_int (fun _ _ => rfl)) (pa_cons (pe_bltn (v := V.ty "tuple") (u := Value.type "tuple") (by rfl) B.tuple boot_tuple rfl) pa_nil))))))))) (pss_one (ps_ret pe_bl)) pss_nil)
        (pss_cons (ps_if (pt_not (pt_val (pe_callB (cr_all rfl) (by rfl) B.all boot_all (pa_cons (pe_lc (own := [("position", 9)]) rfl sc_law_right.nd (pi_tup (pe_ix ix_tup (pv 6) pe_int (fun _ _ => rfl))) (blkOk_by (own := [("position", 9)]) (N := N_law_right) (sc := defScope s_law_right) (by decide +kernel)) (fun _ _ _ _ _ => pg_name (i := 9) sc_law_right.nd rfl (Or.inl rfl)) (fun _ _ _ _ _ => pts_nil) (fun _ _ _ _ _ => (pe_and (pe_cmpR (oK (K := K) (r := rInD) (op_inD (room65 hr)) rfl) (pv 9) (pv 5) (by rfl)) (pe_one (pe_fn o_keeps (hr.mono (by decide)) (pa_cons (pv 2) (pa_cons (pv 9) pa_nil))))))) pa_nil)))) (pss_one (ps_ret pe_bl)) pss_nil)
        (pss_cons (ps_if (PW.pt (pw_or (pt_cmpR (op_neD (room64 hr)) (pe_callB (cr_sortDT rfl (room64 hr)) (by rfl) B.sorted boot_sorted (pa_cons (pe_fn o_law_all (hr.mono (by decide)) (pa_cons (pv 3) (pa_cons (pe_callTy call_list_of (by rfl) B.list boot_list (pa_cons (pe_ix ix_tup (pv 6) pe_int (fun _ _ => rfl)) pa_nil)) (pa_cons pe_int pa_nil)))) pa_nil)) (pv 5) (nomark _)) (pw_or1 (pt_cmpR op_notBl (pe_fnK o_shows_frame (hr.mono (by decide)) kb_shows_frame (pa_cons (pv 2) pa_nil) (pk_cons (pv 6) pk_nil)) pe_bl (nomark _))))) (pss_one (ps_ret pe_bl)) pss_nil)
        (pss_cons (ps_setLc (i := 7) (own := [("position", 9)]) rfl sc_law_right.nd rfl rfl (sw_true rfl rfl rfl (by decide +kernel)) (pi_list (pv 4)) (blkOk_by (own := [("position", 9)]) (N := N_law_right) (sc := defScope s_law_right) (by decide +kernel)) (fun _ _ _ _ _ => pg_name (i := 9) sc_law_right.nd rfl (Or.inl rfl)) (fun _ _ _ _ _ => pts_nil) (fun _ _ _ _ _ => (pe_tup (pa_cons (pe_fn o_law_code (hr.mono (by decide)) (pa_cons (pe_fn o_law_moved (hr.mono (by decide)) (pa_cons (pv 2) (pa_cons (pv 9) pa_nil))) pa_nil)) (pa_cons (pv 9) pa_nil)))))
        (pss_cons (ps_set (i := 8) sc_law_right.nd rfl (Or.inl rfl) (pe_callB (cr_minD rfl (room64 hr)) (by rfl) B.min boot_min (pa_cons (pv 7) pa_nil)))
        (pss_cons (ps_if (pt_cmpR op_ne (pe_callB (call_reprD hgd (room64 hr)) (by rfl) B.repr boot_repr (pa_cons (pe_fnK0 o_least_picture (hr.mono (by decide)) kb_least_picture (pk_cons (pv 2) pk_nil)) pa_nil)) (pe_callB (call_reprD hgd (room64 hr)) (by rfl) B.repr boot_repr (pa_cons (pe_tup (pa_cons (pe_fn o_law_moved (hr.mono (by decide)) (pa_cons (pv 2) (pa_cons (pe_ix ix_tup (pv 8) pe_int (fun _ _ => rfl)) pa_nil))) (pa_cons (pe_ix ix_tup (pv 8) pe_int (fun _ _ => rfl)) pa_nil))) pa_nil)) (nomark _)) (pss_one (ps_ret pe_bl)) pss_nil)
        (pss_one (ps_if (pt_cmpR op_ne (pe_op op_mul (pe_lenSetG (by rfl) B.len (by rfl) B.set (pe_lc (own := [("pair", 10)]) rfl sc_law_right.nd (pi_list (pv 7)) (blkOk_by (own := [("pair", 10)]) (N := N_law_right) (sc := defScope s_law_right) (by decide +kernel)) (fun _ _ _ _ _ => pg_name (i := 10) sc_law_right.nd rfl (Or.inl rfl)) (fun _ _ _ _ _ => pts_nil) (fun _ _ _ _ _ => (pe_ix (xK (K := K) (r := rIxT) ix_tup rfl) (pv 10) pe_int (fun _ _ => rfl)))) (room64 hr)) (pe_callB call_len_seq (by rfl) B.len boot_len (pa_cons (pv 5) pa_nil))) (pe_callB call_len_seq (by rfl) B.len boot_len (pa_cons (pv 4) pa_nil)) (nomark _)) (pss_one (ps_ret pe_bl)) pss_nil)))))))))))))
      (pss_one (ps_ret pe_bl))), ?_⟩
  refine q_forR1 (n := ((3 : Nat) : Int)) (Evl.ea_cons ev_c Evl.ea_nil) (by decide) (fun i σ' H' => (∃ z1 z2 z3 z4 z5 z6 z7 z8, σ' = [some (.ref p), z1, z2, z3, z4, z5, z6, z7, z8, none, none]) ∧ But p H H' ∧ PotAt H' p (1000 * i)) (fun H1 e1 => ⟨⟨none, none, none, none, none, none, none, none, rfl⟩, But.of e1, hP.ex e1⟩) (fun i σ' H' hi h => ?_) (fun σ' H' h => ?_)
  rotate_left
  · obtain ⟨⟨z1, z2, z3, z4, z5, z6, z7, z8, rfl⟩, eB, _⟩ := h
    exact s_ret ev_c fun H1 e1 => k H1 (eB.ex e1)
  obtain ⟨⟨z1, z2, z3, z4, z5, z6, z7, z8, rfl⟩, eB, hP'⟩ := h
  have hi3 : i < 3 := by omega
  refine q_asgM (c_call (Evl.ea_cons (ev_var rfl) (Evl.ea_cons ev_c Evl.ea_nil) H' (Ex.refl _) _ fun H1 e1 => ⟨p, 1000 * i, 5, rfl, hP'.ex e1, by omega, by decide, by decide, fun v1 H2 m M eB2 hP2 hM fM => ?_⟩))
  have eB2' : But p H H2 := (eB.ex e1).trans eB2
  have hm := hM.le
  have hm1 := hM.pos
  have hl : ∀ {σ : L2.St} {H1 : Hp}, Ex H2 H1 → σ[2]? = some (some v1) → Ev (tCB (rLenS K) (tCons (tVar 2) tNil)) σ H1 (.int (m : Int)) := fun e h0 => ev_is (ev_lenT (ed_var h0 (fz_ex e fM))) (by rw [List.length_map, hM.len])
  -- many, every
  refine q_parM (c_cons (hl (Ex.refl _) rfl H2 (Ex.refl _) _ fun H3 e3 => c_cons (c_call (Evl.ea_cons (hl e3 rfl) Evl.ea_nil H3 (Ex.refl _) _ fun H4 e4 => ⟨m, rfl, hm, fun pe xe H5 hpe e5 he fe => c_nil ⟨_, _, rfl, ?_⟩⟩))))
  have e25 := (e3.trans e4).trans e5
  have hel := every_120 hm
  have hlen5 : ((everyN m m).map tN).length ≤ 50000 := by
    rw [List.length_map]
    omega
  -- kept
  refine q_asgE (K := K) (el_filtL (fun d => decide (movedN m M (untN d) = M)) id (ev_var rfl) (sq_of he) fe hlen5 (fun _ => rfl) fun i x d H6 e6 hd f => ?_) fun pk xk H6 hpk e6 hk6 fk => ?_
  · obtain ⟨q, hq, rfl⟩ := map_get hd
    have O := mem_every.mp (List.mem_of_getElem? hq)
    refine ⟨et_is (et_test (ev_eqD (ed_call (ea_d (ed_var rfl (fz_ex (e25.trans e6) fM)) (ea_d (ed_var rfl f) ea_nil)) (pr_D ⟨m, M, q, rfl, hM.sq, hm, ord_perm O, rfl⟩)) (ed_var rfl (fz_ex (e25.trans e6) fM)) (Plain.of (tNN_plain _)) (Plain.of (tNN_plain _)))) ?_, fun _ => ed_var rfl f⟩
    rw [untN_tN, Bool.eq_iff_iff, eqv_iff _ _ (tNN_plain _).1 (tNN_plain _).1, decide_eq_true_eq]
    exact ⟨fun h => tNN_inj h, fun h => by rw [h]⟩
  have ek : (((everyN m m).map tN).filter fun d => decide (movedN m M (untN d) = M)).map id = (keptN m M).map tN := by
    rw [List.map_id]
    unfold keptN
    rw [List.filter_map]
    congr 1
    refine List.filter_congr fun q _ => ?_
    simp [untN_tN]
  rw [ek] at fk
  have hkl : (keptN m M).length ≤ 120 := by
    unfold keptN
    exact Nat.le_trans (List.length_filter_le _ _) hel
  have hkp : ∀ d ∈ (keptN m M).map tN, plain d = true ∧ d.depth ≤ 1 := fun d hd => by
    obtain ⟨q, _, rfl⟩ := List.mem_map.mp hd
    exact tN_plain q
  have e26 := e25.trans e6
  have hke : (laps m M m).2.length = (keptN m M).length := orders_count hM.sq (kept_nd m M) fun g => mem_kept
  -- told
  refine q_asgM (c_callK (c_nil (c_cons (ev_var rfl H6 (Ex.refl _) _ fun H7 e7 => c_nil ⟨m, M, v1, rfl, hM, fz_ex (e26.trans e7) fM, fun us vt H8 e8 hF hul ft => ?_⟩))))
  have e68 := e7.trans e8
  have e28 := e26.trans e68
  have husP : ∀ u ∈ us, IsP m u := fun u hu => (hF.aut u hu).1
  have hkx : ∀ {H9 : Hp}, Ex H8 H9 → SqL K H9 pk xk := fun e => sq_of ((e68.trans e) _ _ hk6)
  have hkf : ∀ {H9 : Hp}, Ex H8 H9 → FzL K H9 ((keptN m M).map tN) xk := fun e => fzl_ex (e68.trans e) fk
  have hklen : ∀ {σ : L2.St} {H9 : Hp}, Ex H8 H9 → σ[5]? = some (some (.ref pk)) → Ev (tCB (rLenS K) (tCons (tVar 5) tNil)) σ H9 (.int ((keptN m M).length : Int)) := fun e h0 => ev_is (ev_len (ev_var h0) (hkx e)) (by rw [fzl_len (hkf e), List.length_map])
  have hs1 := int_shown (n := (keptN m M).length) (by omega)
  refine q_when (b := false) (et_is (et_or (a := false) (et_is (et_test (ev_op (ev_lenT (ed_var rfl ft)) ev_c (rv_ne rfl))) rfl) fun _ => et_or (a := false) (et_is (et_test (ev_op (ev_repr (d := .int ((keptN m M).length : Int)) (hke ▸ ed_ixT (i := 0) (ed_var rfl ft) ev_c rfl) hs1.1 hs1.2.1 hs1.2.2) (ev_repr (d := .int ((keptN m M).length : Int)) (ed_ev (hklen (Ex.refl _) rfl) fz_int) hs1.1 hs1.2.1 hs1.2.2) (rv_ne rfl))) (by simp)) fun _ => et_not (a := true) (et_test (ev_isiT (ed_ixT (i := 1) (ed_var rfl ft) ev_c rfl) (by decide +kernel)))) rfl) (fun z => nomatch z) fun _ H9 e9 => ?_
  have hust : us.length ≤ 120 := by omega
  -- all of told are kept
  refine q_when (b := false) (et_is (et_not (a := true) (et_test (ev_is (ev_all (bs := us.map fun _ => true) (el_mapT (ds := us.map tN) (es := (us.map fun _ => true).map PyData.bool) (ed_ixT (i := 1) (ed_var rfl (fz_ex e9 ft)) ev_c rfl) (by rw [List.length_map]; omega) (by rw [List.length_map, List.length_map, List.length_map]) (fun _ => rfl) fun j x d e H10 e10 hd he f => ?_)) (by simp)))) rfl) (fun z => nomatch z) fun _ H10 e10 => ?_
  · obtain ⟨u, hu, rfl⟩ := map_get hd
    obtain ⟨b, hb, rfl⟩ := map_get he
    obtain ⟨_, _, rfl⟩ := map_get hb
    have hau := hF.aut u (List.mem_of_getElem? hu)
    have e8x := e9.trans e10
    refine ed_ev (ev_is (ev_andV (a := true) (b := true) (ev_is (ev_inLd (ed_var rfl f) (ev_var rfl) (hkx e8x) (hkf e8x) (Plain.of (tN_plain _)) hkp (by decide)) ?_) fun _ => ev_is (ev_bool (ed_call (ea_d (ed_var rfl (fz_ex (e28.trans e8x) fM)) (ea_d (ed_var rfl f) ea_nil)) (pr_D ⟨m, M, u, rfl, hM, hau.1, rfl⟩))) ?_) rfl) fz_bl
    · have : (((keptN m M).map tN).any fun z => PyData.eqv z (tN u)) = true := List.any_eq_true.mpr ⟨tN u, List.mem_map.mpr ⟨u, mem_kept.mpr hau, rfl⟩, eqv_yes (tN_plain _).1⟩
      rw [this]
    · rw [decide_eq_true hau.2]
  have e8a := e9.trans e10
  have e2a := e28.trans e8a
  have fta := fz_ex e8a ft
  -- all that they come to
  refine q_when (b := false) (et_is (et_or (a := false) (b := false) (et_is (et_test (ev_neP (d := .list ((keptN m M).map tN)) (e := .list ((keptN m M).map tN)) ?_ (edp_var (ev_var rfl) ((e68.trans e8a) _ _ hk6) (hkf e8a)) (shaped_list hkp (by decide)) (shaped_list hkp (by decide)))) ?_) fun _ => et_is (et_test (ev_notB (a := true) (b := true) (ev_bool (ed_callKw (ea_d (ed_var rfl (fz_ex e2a fM)) ea_nil) (ea_d (ed_var rfl fta) ea_nil) (pr_D ⟨m, M, us, rfl, hM, hF, hul, rfl⟩))) ev_c)) (by decide)) rfl) (fun z => nomatch z) fun _ H11 e11 => ?_
  · intro G e Q q
    refine c_cb (c_cons (c_call (c_cons (ev_var rfl G (Ex.refl _) _ fun G1 g1 => c_cons (WT.el_listOfT (K := K) (ed_ixT (i := 1) (ed_var rfl (fz_ex (e.trans g1) fta)) ev_c rfl) G1 (Ex.refl _) _ fun l xl G2 hl2 g2 hx fx => c_cons (ev_c G2 (Ex.refl _) _ fun G3 g3 => c_nil ⟨m, us, l, xl, rfl, hm, husP, g3 _ _ hx, fzl_ex g3 fx, fun dd fs G4 hdd g4 hd4 nd hfs => c_nil ⟨dd, fs.map fun f => (iN f, V.bl true), rfl, .inl ?_, fun kv hkv => ?_, fun pz zs hpz hperm hpw hzs => ?_⟩⟩))))))
    · rw [hd4, List.map_map]
      congr 2
      refine List.map_congr_left (fun f _ => ?_)
      show kT f = _
      unfold kT kI iN
      simp
    · obtain ⟨f, hf, rfl⟩ := List.mem_map.mp hkv
      have := isP_len ((hF.gen f).mp ((hfs f).mp hf)).1
      intro z
      have hz := congrArg List.length z
      unfold iN at hz
      rw [List.length_map, this] at hz
      simp at hz
      omega
    · rw [List.map_map] at hperm
      have ez := frame_sorted nd (fun g => (hfs g).trans (hF.gen g)) hperm hpw
      have g5 := Ex.new (o := .lst (zs.map fun z => V.ref z.2)) hpz
      refine q _ _ ((((g1.trans g2).trans g3).trans g4).trans g5) fun G6 g6 => fzl_dpl (sq_of (g6 _ _ upd_same)) (fzl_rows ez fun z hz => g6 _ _ (g5 _ _ (hzs z hz)))
  · rw [(eqv_list (fun d hd => (hkp d hd).1) fun d hd => (hkp d hd).1).mpr rfl]
    rfl
  have e8b := e8a.trans e11
  have e2b := e28.trans e8b
  have e5b : Ex H5 H11 := (e6.trans e68).trans e8b
  -- pairs
  refine q_asgE (K := K) (el_mapL (es := (everyN m m).map (pairD m M)) (ev_var rfl) (sq_of (e5b _ _ he)) (fzl_ex e5b fe) hlen5 (by rw [List.length_map, List.length_map]) (fun _ => rfl) fun j x d e H12 e12 hd hde f => ?_) fun pp xp H12 hpp e12 hp12 fp => ?_
  · obtain ⟨q, hq, rfl⟩ := map_get hd
    obtain ⟨q', hq', rfl⟩ := map_get hde
    rw [hq] at hq'
    cases hq'
    have pq := every_isP.mp (List.mem_of_getElem? hq)
    exact ed_tup (ds := [tN (codeN m (movedN m M q)), tN q]) (ea_d (ed_call (ea_d (ed_call (ea_d (ed_var rfl (fz_ex (e2b.trans e12) fM)) (ea_d (ed_var rfl f) ea_nil)) (pr_D ⟨m, M, q, rfl, hM.sq, hm, pq, rfl⟩)) ea_nil) (pr_D ⟨m, _, rfl, moved_sq, hm, rfl⟩)) (ea_d (ed_var rfl f) ea_nil)) (show 2 ≤ 100000 by decide)
  have hne : ∃ q0 qs, everyN m m = q0 :: qs := by
    cases h : everyN m m with
    | nil =>
      have := every_isP.mpr (one_isP m)
      rw [h] at this
      cases this
    | cons a b => exact ⟨a, b, rfl⟩
  obtain ⟨q0, qs, hq0⟩ := hne
  -- least
  refine q_asgM (c_cb (c_cons (ev_var rfl H12 (Ex.refl _) _ fun H13 e13 => c_nil ⟨pp, xp, pairD m M q0, qs.map (pairD m M), rfl, sq_of (e13 _ _ hp12), ?_, ?_, ?_, fun vl hvl => ?_⟩)))
  · rw [← List.map_cons, ← hq0]
    exact fzl_ex e13 fp
  · rw [← List.map_cons]
    refine ⟨fun a ha b hb => ?_, fun a ha => ?_⟩
    · obtain ⟨qa, _, rfl⟩ := List.mem_map.mp ha
      obtain ⟨qb, _, rfl⟩ := List.mem_map.mp hb
      exact alike_pair qa qb
    · obtain ⟨qa, _, rfl⟩ := List.mem_map.mp ha
      exact fun z => nomatch z
  · refine depthAll_le fun d hd => ?_
    rw [← List.map_cons] at hd
    obtain ⟨q, _, rfl⟩ := List.mem_map.mp hd
    have h1 := (tN_plain (codeN m (movedN m M q))).2
    have h2 := (tN_plain q).2
    unfold pairD
    simp only [PyData.depth, PyData.depthAll]
    omega
  rw [min_pairs hq0] at hvl
  have e2d := (e2b.trans e12).trans e13
  have hlp := (least_ok m M).2
  have hs2 := least_shown (least_pic hM) hlp
  refine q_when (b := false) (et_is (et_test (ev_op (ev_repr (ed_callKw ea_nil (ea_d (ed_var rfl (fz_ex e2d fM)) ea_nil) (pr_D ⟨m, M, rfl, hM, rfl⟩)) hs2.1 hs2.2.1 hs2.2.2) (ev_repr (ed_tup (ds := [tNN (leastPic m M), tN (leastPos m M)]) (ea_d (ed_call (ea_d (ed_var rfl (fz_ex e2d fM)) (ea_d (ed_ixT (i := 1) (ed_var rfl hvl) ev_c rfl) ea_nil)) (pr_D ⟨m, M, leastPos m M, rfl, hM.sq, hm, hlp, rfl⟩)) (ea_d (ed_ixT (i := 1) (ed_var rfl hvl) ev_c rfl) ea_nil)) (show 2 ≤ 100000 by decide)) hs2.1 hs2.2.1 hs2.2.2) (rv_ne rfl))) (by simp)) (fun z => nomatch z) fun _ H14 e14 => ?_
  have e5e : Ex H5 H14 := ((e5b.trans e12).trans e13).trans e14
  have e12e : Ex H12 H14 := e13.trans e14
  -- how many are unlike
  obtain ⟨ds, dnd, dmem⟩ : ∃ ds : List (List Nat), ds.Nodup ∧ ∀ d, d ∈ ds ↔ ∃ q ∈ everyN m m, d = codeN m (movedN m M q) := by
    obtain ⟨ds, h1, h2⟩ := dedup_of ((everyN m m).map fun q => codeN m (movedN m M q))
    exact ⟨ds, h1, fun d => by
      rw [h2, List.mem_map]
      exact ⟨fun ⟨q, z1, z2⟩ => ⟨q, z1, z2.symm⟩, fun ⟨q, z1, z2⟩ => ⟨q, z1, z2.symm⟩⟩⟩
  have hcount := unlike_count hM.sq dnd dmem
  have hds : ds.length ≤ 120 := by
    have h0 : 1 ≤ (keptN m M).length := by
      have := mem_kept.mpr (aut_one (k := m) hM.sq)
      exact List.length_pos_of_mem this
    have : ds.length * 1 ≤ ds.length * (keptN m M).length := Nat.mul_le_mul_left _ h0
    omega
  refine s_when (b := false) (et_is (et_test (ev_op (ev_op (ev_lenSetG (K := K) (cs := (everyN m m).map fun q => codeN m (movedN m M q)) ?_ (by rw [List.length_map]; omega) ds.length fun u hu hmu => ?_) (hklen (e8b.trans (e12.trans e12e)) rfl) (rv_I (cMulL ⟨by omega, by omega⟩))) (ev_is (ev_len (ev_var rfl) (sq_of (e5e _ _ he))) (by rw [fzl_len fe, List.length_map])) (rv_ne rfl))) ?_) (fun z => nomatch z) fun _ H15 e15 => ⟨⟨_, _, _, _, _, _, _, _, rfl⟩, ?_, ?_⟩
  · refine el_is (el_mapL (es := ((everyN m m).map fun q => codeN m (movedN m M q)).map tN) (ev_var rfl) (sq_of (e12e _ _ hp12)) (fzl_ex e12e fp) (by rw [List.length_map]; omega) (by rw [List.length_map, List.length_map, List.length_map]) (fun _ => rfl) fun j x d e H15 e15 hd hde f => ?_) rfl
    obtain ⟨q, hq, rfl⟩ := map_get hd
    obtain ⟨c, hc, rfl⟩ := map_get hde
    obtain ⟨q', hq', rfl⟩ := map_get hc
    rw [hq] at hq'
    cases hq'
    exact ed_ixT (i := 0) (ed_var rfl f) ev_c rfl
  · have hp2 : u.Perm ds := (List.perm_ext_iff_of_nodup hu dnd).mpr fun c => by
      rw [hmu c, dmem c, List.mem_map]
      exact ⟨fun ⟨q, h1, h2⟩ => ⟨q, h1, h2.symm⟩, fun ⟨q, h1, h2⟩ => ⟨q, h1, h2.symm⟩⟩
    exact hp2.length_eq
  · rw [← hcount]
    simp
  · exact ((eB2'.ex e2d).ex e14).ex e15
  · exact (((hP2.ex e2d).ex e14).ex e15).le (by omega)
end
abbrev s_law : Stmt := top 41
abbrev N_law : List Str := ["script", "at"]
theorem sc_law : FnScope N_law ["script"] (defScope s_law) := ⟨rfl, rfl, rfl, by decide +kernel, rfl, by decide +kernel, by decide +kernel⟩
section
variable {P : Program} {w : World} {K : PySem.W.Frag} {mg : Str → Option Value} {base : Heap}
theorem ok_law (B : Bt mg) (o_law_pot : Okd P w K mg base "_law_pot" ["script", "place"] s_law_pot 1 (spPot K)) (o_law_cells : Okd P w K mg base "_law_cells" ["script", "most"] s_law_cells 1 (spCells K)) (o_law_right : Okg P w K mg base "_law_right" ["pot"] s_law_right 10 (spRight K))
    (d : DefIn K mg "law" ["script"] s_law) : Okg P w K mg base "law" ["script"] s_law 11 (spLaw K) := by
  refine Okg.mk d sc_law (fun vs H Q E h => ?_) (fun f cdv A outer s H vs Q E hgd hr h => ?_)
  · obtain ⟨a, ns, rfl, _⟩ := h
    rfl
  · obtain ⟨a, ns, rfl, hS, hl, k⟩ := h
    refine ⟨_, (pss_one (ps_ret (pe_callB (cr_all rfl) (by rfl) B.all boot_all (pa_cons (pe_lc (own := [("at", 1)]) rfl sc_law.nd (pi_list (pe_fn o_law_cells (hr.mono (by decide)) (pa_cons (pv 0) (pa_cons pe_int pa_nil)))) (blkOk_by (own := [("at", 1)]) (N := N_law) (sc := defScope s_law) (by decide +kernel)) (fun _ _ _ _ _ => pg_name (i := 1) sc_law.nd rfl (Or.inl rfl)) (fun _ _ _ _ _ => pts_nil) (fun _ _ _ _ _ => (pe_fnG o_law_right hgd (hr.mono (by decide)) (pa_cons (pe_fn o_law_pot (hr.mono (by decide)) (pa_cons (pv 0) (pa_cons (pv 1) pa_nil))) pa_nil)))) pa_nil)))), ?_⟩
    refine s_retM (c_cb (c_cons (c_lcList (c_call (Evl.ea_cons (ev_var rfl) (Evl.ea_cons ev_c Evl.ea_nil) H (Ex.refl _) _ fun H1 e1 => ⟨a, ns.map V.int, rfl, ex_l e1 hS, by rw [List.length_map]; omega, fun n p H2 hn hp e2 h2 => ⟨p, rfl, ?_⟩⟩)))))
    refine c_cb1 (ev_all (K := K) (bs := (List.range n).map fun _ => true) (el_mapL ev_c (sq_of h2) (fzl_nats.mpr rfl) (by rw [List.length_map, List.length_range]; omega) (by rw [List.length_map, List.length_map, List.length_map]) (fun _ => rfl) fun i x d e H3 e3 hd he f => ?_) H2 (Ex.refl _) _ fun H3 e3 => ?_)
    · obtain ⟨b, hb, rfl⟩ := tN_get hd
      obtain ⟨c, hc, rfl⟩ := map_get he
      obtain ⟨c2, _, rfl⟩ := map_get hc
      have hx := fz_intI f
      subst hx
      have hbn : b < n := List.mem_range.mp (List.mem_of_getElem? hb)
      refine fun H4 e4 Q2 q2 => c_call (c_cons (c_call (Evl.ea_cons (ev_var rfl) (Evl.ea_cons (ev_var rfl) Evl.ea_nil) H4 (Ex.refl _) _ fun H5 e5 => ⟨a, ns, b, rfl, ex_l ((((e1.trans e2).trans e3).trans e4).trans e5) hS, hl, by omega, fun pt H6 hpt e6 hP => c_nil ⟨pt, rfl, hP, fun H7 eB => q2 _ H7 ?_ fz_bl⟩⟩)))
      intro q o hq
      refine eB q o (fun z => ?_) (e6 _ _ (e5 _ _ hq))
      rw [z] at hq
      have := fresh_back e5 hpt
      rw [this] at hq
      cases hq
    · have : ((List.range n).map fun _ => true).all id = true := by simp
      rw [this]
      exact k H3
end
end WT
/-! What the top has written. -/
namespace WT
open PySem PySem.Spec PyProof.Rows L2 Evl
theorem fun_uniq {K : PySem.W.Frag} {x q : Str} {st : Stmt} {f : Addr} {fd fe : FuncData} (F : Fun K x q st f fd) (F' : Fun K x q st f fe) : fd = fe := by
  obtain ⟨_, _, _, _, _, _, _, _, _, rfl, lk, _⟩ := F.ex
  obtain ⟨_, _, _, _, _, _, _, _, _, rfl, lk', _⟩ := F'.ex
  rw [lk] at lk'
  cases lk'
  rfl
set_option maxHeartbeats 0 in
theorem all_mk {l : PySem.W.OpenLaw} {w : World} {K : PySem.W.Frag} {h : Heap} {mg : Str → Option Value} {fa : Addr} (X : K.In h) (G : h.Ns mainGlobals mg) (hfa : mg "law" = some (.ref fa))
    {C_Lanes : Addr} {p_Lanes_amount : Addr} {p_Lanes_known : Addr} {p_Lanes_lanes : Addr} {p_Lanes_strong : Addr}
    {f1 : Addr} {od1 an1 : Option Addr} {sl1 : Array (Option Value)} {oc1 kV1 dc1 pm1 cd1 ct1 : Value}
    {f2 : Addr} {od2 an2 : Option Addr} {sl2 : Array (Option Value)} {oc2 kV2 dc2 pm2 cd2 ct2 : Value}
    {f3 : Addr} {od3 an3 : Option Addr} {sl3 : Array (Option Value)} {oc3 kV3 dc3 pm3 cd3 ct3 : Value}
    {f4 : Addr} {od4 an4 : Option Addr} {sl4 : Array (Option Value)} {oc4 kV4 dc4 pm4 cd4 ct4 : Value}
    {f5 : Addr} {od5 an5 : Option Addr} {sl5 : Array (Option Value)} {oc5 kV5 dc5 pm5 cd5 ct5 : Value}
    {f6 : Addr} {od6 an6 : Option Addr} {sl6 : Array (Option Value)} {oc6 kV6 dc6 pm6 cd6 ct6 : Value}
    {f7 : Addr} {od7 an7 : Option Addr} {sl7 : Array (Option Value)} {oc7 kV7 dc7 pm7 cd7 ct7 : Value}
    {f8 : Addr} {od8 an8 : Option Addr} {sl8 : Array (Option Value)} {oc8 kV8 dc8 pm8 cd8 ct8 : Value}
    {f9 : Addr} {od9 an9 : Option Addr} {sl9 : Array (Option Value)} {oc9 kV9 dc9 pm9 cd9 ct9 : Value}
    {f10 : Addr} {od10 an10 : Option Addr} {sl10 : Array (Option Value)} {oc10 kV10 dc10 pm10 cd10 ct10 : Value}
    {f11 : Addr} {od11 an11 : Option Addr} {sl11 : Array (Option Value)} {oc11 kV11 dc11 pm11 cd11 ct11 : Value}
    {f12 : Addr} {od12 an12 : Option Addr} {sl12 : Array (Option Value)} {oc12 kV12 dc12 pm12 cd12 ct12 : Value}
    {f13 : Addr} {od13 an13 : Option Addr} {sl13 : Array (Option Value)} {oc13 kV13 dc13 pm13 cd13 ct13 : Value}
    {f14 : Addr} {od14 an14 : Option Addr} {sl14 : Array (Option Value)} {oc14 kV14 dc14 pm14 cd14 ct14 : Value}
    {f15 : Addr} {od15 an15 : Option Addr} {sl15 : Array (Option Value)} {oc15 kV15 dc15 pm15 cd15 ct15 : Value}
    {f16 : Addr} {od16 an16 : Option Addr} {sl16 : Array (Option Value)} {oc16 kV16 dc16 pm16 cd16 ct16 : Value}
    {f17 : Addr} {od17 an17 : Option Addr} {sl17 : Array (Option Value)} {oc17 kV17 dc17 pm17 cd17 ct17 : Value}
    {f18 : Addr} {od18 an18 : Option Addr} {sl18 : Array (Option Value)} {oc18 kV18 dc18 pm18 cd18 ct18 : Value}
    {f19 : Addr} {od19 an19 : Option Addr} {sl19 : Array (Option Value)} {oc19 kV19 dc19 pm19 cd19 ct19 : Value}
    {f20 : Addr} {od20 an20 : Option Addr} {sl20 : Array (Option Value)} {oc20 kV20 dc20 pm20 cd20 ct20 : Value}
    {f21 : Addr} {od21 an21 : Option Addr} {sl21 : Array (Option Value)} {oc21 kV21 dc21 pm21 cd21 ct21 : Value}
    {f22 : Addr} {od22 an22 : Option Addr} {sl22 : Array (Option Value)} {oc22 kV22 dc22 pm22 cd22 ct22 : Value}
    {f23 : Addr} {od23 an23 : Option Addr} {sl23 : Array (Option Value)} {oc23 kV23 dc23 pm23 cd23 ct23 : Value}
    {f24 : Addr} {od24 an24 : Option Addr} {sl24 : Array (Option Value)} {oc24 kV24 dc24 pm24 cd24 ct24 : Value}
    {f25 : Addr} {od25 an25 : Option Addr} {sl25 : Array (Option Value)} {oc25 kV25 dc25 pm25 cd25 ct25 : Value}
    {f26 : Addr} {od26 an26 : Option Addr} {sl26 : Array (Option Value)} {oc26 kV26 dc26 pm26 cd26 ct26 : Value}
    {f27 : Addr} {od27 an27 : Option Addr} {sl27 : Array (Option Value)} {oc27 kV27 dc27 pm27 cd27 ct27 : Value}
    {f28 : Addr} {od28 an28 : Option Addr} {sl28 : Array (Option Value)} {oc28 kV28 dc28 pm28 cd28 ct28 : Value}
    {f29 : Addr} {od29 an29 : Option Addr} {sl29 : Array (Option Value)} {oc29 kV29 dc29 pm29 cd29 ct29 : Value}
    {f30 : Addr} {od30 an30 : Option Addr} {sl30 : Array (Option Value)} {oc30 kV30 dc30 pm30 cd30 ct30 : Value}
    {f31 : Addr} {od31 an31 : Option Addr} {sl31 : Array (Option Value)} {oc31 kV31 dc31 pm31 cd31 ct31 : Value}
    {f32 : Addr} {od32 an32 : Option Addr} {sl32 : Array (Option Value)} {oc32 kV32 dc32 pm32 cd32 ct32 : Value}
    {f33 : Addr} {od33 an33 : Option Addr} {sl33 : Array (Option Value)} {oc33 kV33 dc33 pm33 cd33 ct33 : Value}
    {f34 : Addr} {od34 an34 : Option Addr} {sl34 : Array (Option Value)} {oc34 kV34 dc34 pm34 cd34 ct34 : Value}
    {f35 : Addr} {od35 an35 : Option Addr} {sl35 : Array (Option Value)} {oc35 kV35 dc35 pm35 cd35 ct35 : Value}
    {f36 : Addr} {od36 an36 : Option Addr} {sl36 : Array (Option Value)} {oc36 kV36 dc36 pm36 cd36 ct36 : Value}
    {f37 : Addr} {od37 an37 : Option Addr} {sl37 : Array (Option Value)} {oc37 kV37 dc37 pm37 cd37 ct37 : Value}
    {f38 : Addr} {od38 an38 : Option Addr} {sl38 : Array (Option Value)} {oc38 kV38 dc38 pm38 cd38 ct38 : Value}
    {f39 : Addr} {od39 an39 : Option Addr} {sl39 : Array (Option Value)} {oc39 kV39 dc39 pm39 cd39 ct39 : Value}
    {t_most_wide : Tok} {t_most_spots : Tok} {t_most_mark : Tok}
    (g_Lanes : PySem.W.nsIn K mainGlobals "Lanes" = some (some (.ref C_Lanes))) (pg_Lanes : PySem.W.plainGet K C_Lanes Str.empty = true) (ic_Lanes : PySem.W.isClsIn K C_Lanes = true) (po_Lanes : PySem.W.plainOver K C_Lanes = true) (sa_Lanes : PySem.W.findIn K (.ref C_Lanes) "__setattr__" = some (some (.builtin "object.__setattr__"))) (mk_Lanes : PySem.W.makesIn K C_Lanes = true) (kp_Lanes : PySem.W.keepIn K (.ref C_Lanes) = true)
    (at_Lanes_amount : PySem.W.findIn K (.ref C_Lanes) "amount" = some (some (.ref p_Lanes_amount))) (ge_Lanes_amount : PySem.W.specialIn K (.ref p_Lanes_amount) "__get__" = some (some (.builtin "member_descriptor.__get__"))) (tk_Lanes_amount : PySem.W.takesIn K (.ref p_Lanes_amount) = some true) (ty_Lanes_amount : PySem.W.typeIn K (.ref p_Lanes_amount) = some (.type "member_descriptor")) (ix_Lanes_amount : PySem.W.slotIn K p_Lanes_amount C_Lanes = some 0)
    (at_Lanes_known : PySem.W.findIn K (.ref C_Lanes) "known" = some (some (.ref p_Lanes_known))) (ge_Lanes_known : PySem.W.specialIn K (.ref p_Lanes_known) "__get__" = some (some (.builtin "member_descriptor.__get__"))) (tk_Lanes_known : PySem.W.takesIn K (.ref p_Lanes_known) = some true) (ty_Lanes_known : PySem.W.typeIn K (.ref p_Lanes_known) = some (.type "member_descriptor")) (ix_Lanes_known : PySem.W.slotIn K p_Lanes_known C_Lanes = some 1)
    (at_Lanes_lanes : PySem.W.findIn K (.ref C_Lanes) "lanes" = some (some (.ref p_Lanes_lanes))) (ge_Lanes_lanes : PySem.W.specialIn K (.ref p_Lanes_lanes) "__get__" = some (some (.builtin "member_descriptor.__get__"))) (tk_Lanes_lanes : PySem.W.takesIn K (.ref p_Lanes_lanes) = some true) (ty_Lanes_lanes : PySem.W.typeIn K (.ref p_Lanes_lanes) = some (.type "member_descriptor")) (ix_Lanes_lanes : PySem.W.slotIn K p_Lanes_lanes C_Lanes = some 2)
    (at_Lanes_strong : PySem.W.findIn K (.ref C_Lanes) "strong" = some (some (.ref p_Lanes_strong))) (ge_Lanes_strong : PySem.W.specialIn K (.ref p_Lanes_strong) "__get__" = some (some (.builtin "member_descriptor.__get__"))) (tk_Lanes_strong : PySem.W.takesIn K (.ref p_Lanes_strong) = some true) (ty_Lanes_strong : PySem.W.typeIn K (.ref p_Lanes_strong) = some (.type "member_descriptor")) (ix_Lanes_strong : PySem.W.slotIn K p_Lanes_strong C_Lanes = some 3)
    (a1 : PySem.W.findIn K (.ref C_Lanes) "first_moved" = some (some (.ref f1))) (n1 : PySem.W.isFn K (.ref f1) = true) (l1 : K.lookup f1 = some ⟨oc1, od1, .func (PySem.W.fnOf "first_moved" "Lanes.first_moved" (defArgs s_Lanes_first_moved) (defBody s_Lanes_first_moved) (defScope s_Lanes_first_moved) .none kV1 dc1 pm1 an1 cd1 ct1), sl1⟩) (c1 : PySem.W.codeIn K cd1 "Lanes.first_moved" = true) (i1 : PySem.W.keepIn K (.ref f1) = true)
    (a2 : PySem.W.findIn K (.ref C_Lanes) "sifted" = some (some (.ref f2))) (n2 : PySem.W.isFn K (.ref f2) = true) (l2 : K.lookup f2 = some ⟨oc2, od2, .func (PySem.W.fnOf "sifted" "Lanes.sifted" (defArgs s_Lanes_sifted) (defBody s_Lanes_sifted) (defScope s_Lanes_sifted) .none kV2 dc2 pm2 an2 cd2 ct2), sl2⟩) (c2 : PySem.W.codeIn K cd2 "Lanes.sifted" = true) (i2 : PySem.W.keepIn K (.ref f2) = true)
    (a3 : PySem.W.findIn K (.ref C_Lanes) "keepers" = some (some (.ref f3))) (n3 : PySem.W.isFn K (.ref f3) = true) (l3 : K.lookup f3 = some ⟨oc3, od3, .func (PySem.W.fnOf "keepers" "Lanes.keepers" (defArgs s_Lanes_keepers) (defBody s_Lanes_keepers) (defScope s_Lanes_keepers) .none kV3 dc3 pm3 an3 cd3 ct3), sl3⟩) (c3 : PySem.W.codeIn K cd3 "Lanes.keepers" = true) (i3 : PySem.W.keepIn K (.ref f3) = true)
    (a4 : PySem.W.findIn K (.ref C_Lanes) "widen" = some (some (.ref f4))) (n4 : PySem.W.isFn K (.ref f4) = true) (l4 : K.lookup f4 = some ⟨oc4, od4, .func (PySem.W.fnOf "widen" "Lanes.widen" (defArgs s_Lanes_widen) (defBody s_Lanes_widen) (defScope s_Lanes_widen) .none kV4 dc4 pm4 an4 cd4 ct4), sl4⟩) (c4 : PySem.W.codeIn K cd4 "Lanes.widen" = true) (i4 : PySem.W.keepIn K (.ref f4) = true)
    (a5 : PySem.W.findIn K (.ref C_Lanes) "left_at" = some (some (.ref f5))) (n5 : PySem.W.isFn K (.ref f5) = true) (l5 : K.lookup f5 = some ⟨oc5, od5, .func (PySem.W.fnOf "left_at" "Lanes.left_at" (defArgs s_Lanes_left_at) (defBody s_Lanes_left_at) (defScope s_Lanes_left_at) .none kV5 dc5 pm5 an5 cd5 ct5), sl5⟩) (c5 : PySem.W.codeIn K cd5 "Lanes.left_at" = true) (i5 : PySem.W.keepIn K (.ref f5) = true)
    (a6 : PySem.W.findIn K (.ref C_Lanes) "first_left" = some (some (.ref f6))) (n6 : PySem.W.isFn K (.ref f6) = true) (l6 : K.lookup f6 = some ⟨oc6, od6, .func (PySem.W.fnOf "first_left" "Lanes.first_left" (defArgs s_Lanes_first_left) (defBody s_Lanes_first_left) (defScope s_Lanes_first_left) .none kV6 dc6 pm6 an6 cd6 ct6), sl6⟩) (c6 : PySem.W.codeIn K cd6 "Lanes.first_left" = true) (i6 : PySem.W.keepIn K (.ref f6) = true)
    (a7 : PySem.W.findIn K (.ref C_Lanes) "has" = some (some (.ref f7))) (n7 : PySem.W.isFn K (.ref f7) = true) (l7 : K.lookup f7 = some ⟨oc7, od7, .func (PySem.W.fnOf "has" "Lanes.has" (defArgs s_Lanes_has) (defBody s_Lanes_has) (defScope s_Lanes_has) .none kV7 dc7 pm7 an7 cd7 ct7), sl7⟩) (c7 : PySem.W.codeIn K cd7 "Lanes.has" = true) (i7 : PySem.W.keepIn K (.ref f7) = true)
    (a8 : PySem.W.findIn K (.ref C_Lanes) "take" = some (some (.ref f8))) (n8 : PySem.W.isFn K (.ref f8) = true) (l8 : K.lookup f8 = some ⟨oc8, od8, .func (PySem.W.fnOf "take" "Lanes.take" (defArgs s_Lanes_take) (defBody s_Lanes_take) (defScope s_Lanes_take) .none kV8 dc8 pm8 an8 cd8 ct8), sl8⟩) (c8 : PySem.W.codeIn K cd8 "Lanes.take" = true) (i8 : PySem.W.keepIn K (.ref f8) = true)
    (a9 : PySem.W.findIn K (.ref C_Lanes) "count" = some (some (.ref f9))) (n9 : PySem.W.isFn K (.ref f9) = true) (l9 : K.lookup f9 = some ⟨oc9, od9, .func (PySem.W.fnOf "count" "Lanes.count" (defArgs s_Lanes_count) (defBody s_Lanes_count) (defScope s_Lanes_count) .none kV9 dc9 pm9 an9 cd9 ct9), sl9⟩) (c9 : PySem.W.codeIn K cd9 "Lanes.count" = true) (i9 : PySem.W.keepIn K (.ref f9) = true)
    (a10 : PySem.W.findIn K (.ref C_Lanes) "__init__" = some (some (.ref f10))) (n10 : PySem.W.isFn K (.ref f10) = true) (l10 : K.lookup f10 = some ⟨oc10, od10, .func (PySem.W.fnOf "__init__" "Lanes.__init__" (defArgs s_Lanes_init) (defBody s_Lanes_init) (defScope s_Lanes_init) .none kV10 dc10 pm10 an10 cd10 ct10), sl10⟩) (c10 : PySem.W.codeIn K cd10 "Lanes.__init__" = true) (i10 : PySem.W.keepIn K (.ref f10) = true)
    (a11 : PySem.W.nsIn K mainGlobals "_law_pot" = some (some (.ref f11))) (l11 : K.lookup f11 = some ⟨oc11, od11, .func (PySem.W.fnOf "_law_pot" "_law_pot" (defArgs s_law_pot) (defBody s_law_pot) (defScope s_law_pot) .none kV11 dc11 pm11 an11 cd11 ct11), sl11⟩) (c11 : PySem.W.codeIn K cd11 "_law_pot" = true) (i11 : PySem.W.keepIn K (.ref f11) = true)
    (a12 : PySem.W.nsIn K mainGlobals "_law_take" = some (some (.ref f12))) (l12 : K.lookup f12 = some ⟨oc12, od12, .func (PySem.W.fnOf "_law_take" "_law_take" (defArgs s_law_take) (defBody s_law_take) (defScope s_law_take) .none kV12 dc12 pm12 an12 cd12 ct12), sl12⟩) (c12 : PySem.W.codeIn K cd12 "_law_take" = true) (i12 : PySem.W.keepIn K (.ref f12) = true)
    (a13 : PySem.W.nsIn K mainGlobals "_law_cells" = some (some (.ref f13))) (l13 : K.lookup f13 = some ⟨oc13, od13, .func (PySem.W.fnOf "_law_cells" "_law_cells" (defArgs s_law_cells) (defBody s_law_cells) (defScope s_law_cells) .none kV13 dc13 pm13 an13 cd13 ct13), sl13⟩) (c13 : PySem.W.codeIn K cd13 "_law_cells" = true) (i13 : PySem.W.keepIn K (.ref f13) = true)
    (a14 : PySem.W.nsIn K mainGlobals "is_int" = some (some (.ref f14))) (l14 : K.lookup f14 = some ⟨oc14, od14, .func (PySem.W.fnOf "is_int" "is_int" (defArgs s_is_int) (defBody s_is_int) (defScope s_is_int) .none kV14 dc14 pm14 an14 cd14 ct14), sl14⟩) (c14 : PySem.W.codeIn K cd14 "is_int" = true) (i14 : PySem.W.keepIn K (.ref f14) = true)
    (a15 : PySem.W.nsIn K mainGlobals "is_position_of" = some (some (.ref f15))) (l15 : K.lookup f15 = some ⟨oc15, od15, .func (PySem.W.fnOf "is_position_of" "is_position_of" (defArgs s_is_position_of) (defBody s_is_position_of) (defScope s_is_position_of) .none kV15 dc15 pm15 an15 cd15 ct15), sl15⟩) (c15 : PySem.W.codeIn K cd15 "is_position_of" = true) (i15 : PySem.W.keepIn K (.ref f15) = true)
    (a16 : PySem.W.nsIn K mainGlobals "is_picture" = some (some (.ref f16))) (l16 : K.lookup f16 = some ⟨oc16, od16, .func (PySem.W.fnOf "is_picture" "is_picture" (defArgs s_is_picture) (defBody s_is_picture) (defScope s_is_picture) .none kV16 dc16 pm16 an16 cd16 ct16), sl16⟩) (c16 : PySem.W.codeIn K cd16 "is_picture" = true) (i16 : PySem.W.keepIn K (.ref f16) = true)
    (a17 : PySem.W.nsIn K mainGlobals "look_at_picture" = some (some (.ref f17))) (l17 : K.lookup f17 = some ⟨oc17, od17, .func (PySem.W.fnOf "look_at_picture" "look_at_picture" (defArgs s_look_at_picture) (defBody s_look_at_picture) (defScope s_look_at_picture) .none kV17 dc17 pm17 an17 cd17 ct17), sl17⟩) (c17 : PySem.W.codeIn K cd17 "look_at_picture" = true) (i17 : PySem.W.keepIn K (.ref f17) = true)
    (a18 : PySem.W.nsIn K mainGlobals "told_moved" = some (some (.ref f18))) (l18 : K.lookup f18 = some ⟨oc18, od18, .func (PySem.W.fnOf "told_moved" "told_moved" (defArgs s_told_moved) (defBody s_told_moved) (defScope s_told_moved) .none kV18 dc18 pm18 an18 cd18 ct18), sl18⟩) (c18 : PySem.W.codeIn K cd18 "told_moved" = true) (i18 : PySem.W.keepIn K (.ref f18) = true)
    (a19 : PySem.W.nsIn K mainGlobals "marks_with" = some (some (.ref f19))) (l19 : K.lookup f19 = some ⟨oc19, od19, .func (PySem.W.fnOf "marks_with" "marks_with" (defArgs s_marks_with) (defBody s_marks_with) (defScope s_marks_with) .none kV19 dc19 pm19 an19 cd19 ct19), sl19⟩) (c19 : PySem.W.codeIn K cd19 "marks_with" = true) (i19 : PySem.W.keepIn K (.ref f19) = true)
    (a20 : PySem.W.nsIn K mainGlobals "least_orders" = some (some (.ref f20))) (l20 : K.lookup f20 = some ⟨oc20, od20, .func (PySem.W.fnOf "least_orders" "least_orders" (defArgs s_least_orders) (defBody s_least_orders) (defScope s_least_orders) .none kV20 dc20 pm20 an20 cd20 ct20), sl20⟩) (c20 : PySem.W.codeIn K cd20 "least_orders" = true) (i20 : PySem.W.keepIn K (.ref f20) = true)
    (a21 : PySem.W.nsIn K mainGlobals "position_by" = some (some (.ref f21))) (l21 : K.lookup f21 = some ⟨oc21, od21, .func (PySem.W.fnOf "position_by" "position_by" (defArgs s_position_by) (defBody s_position_by) (defScope s_position_by) .none kV21 dc21 pm21 an21 cd21 ct21), sl21⟩) (c21 : PySem.W.codeIn K cd21 "position_by" = true) (i21 : PySem.W.keepIn K (.ref f21) = true)
    (a22 : PySem.W.nsIn K mainGlobals "least_picture" = some (some (.ref f22))) (l22 : K.lookup f22 = some ⟨oc22, od22, .func (PySem.W.fnOf "least_picture" "least_picture" (defArgs s_least_picture) (defBody s_least_picture) (defScope s_least_picture) .none kV22 dc22 pm22 an22 cd22 ct22), sl22⟩) (c22 : PySem.W.codeIn K cd22 "least_picture" = true) (i22 : PySem.W.keepIn K (.ref f22) = true)
    (a23 : PySem.W.nsIn K mainGlobals "_law_picture_drawn" = some (some (.ref f23))) (l23 : K.lookup f23 = some ⟨oc23, od23, .func (PySem.W.fnOf "_law_picture_drawn" "_law_picture_drawn" (defArgs s_law_picture_drawn) (defBody s_law_picture_drawn) (defScope s_law_picture_drawn) .none kV23 dc23 pm23 an23 cd23 ct23), sl23⟩) (c23 : PySem.W.codeIn K cd23 "_law_picture_drawn" = true) (i23 : PySem.W.keepIn K (.ref f23) = true)
    (a24 : PySem.W.nsIn K mainGlobals "_law_moved" = some (some (.ref f24))) (l24 : K.lookup f24 = some ⟨oc24, od24, .func (PySem.W.fnOf "_law_moved" "_law_moved" (defArgs s_law_moved) (defBody s_law_moved) (defScope s_law_moved) .none kV24 dc24 pm24 an24 cd24 ct24), sl24⟩) (c24 : PySem.W.codeIn K cd24 "_law_moved" = true) (i24 : PySem.W.keepIn K (.ref f24) = true)
    (a25 : PySem.W.nsIn K mainGlobals "_law_every" = some (some (.ref f25))) (l25 : K.lookup f25 = some ⟨oc25, od25, .func (PySem.W.fnOf "_law_every" "_law_every" (defArgs s_law_every) (defBody s_law_every) (defScope s_law_every) .none kV25 dc25 pm25 an25 cd25 ct25), sl25⟩) (c25 : PySem.W.codeIn K cd25 "_law_every" = true) (i25 : PySem.W.keepIn K (.ref f25) = true)
    (a26 : PySem.W.nsIn K mainGlobals "told_then" = some (some (.ref f26))) (l26 : K.lookup f26 = some ⟨oc26, od26, .func (PySem.W.fnOf "told_then" "told_then" (defArgs s_told_then) (defBody s_told_then) (defScope s_told_then) .none kV26 dc26 pm26 an26 cd26 ct26), sl26⟩) (c26 : PySem.W.codeIn K cd26 "told_then" = true) (i26 : PySem.W.keepIn K (.ref f26) = true)
    (a27 : PySem.W.nsIn K mainGlobals "told_undone" = some (some (.ref f27))) (l27 : K.lookup f27 = some ⟨oc27, od27, .func (PySem.W.fnOf "told_undone" "told_undone" (defArgs s_told_undone) (defBody s_told_undone) (defScope s_told_undone) .none kV27 dc27 pm27 an27 cd27 ct27), sl27⟩) (c27 : PySem.W.codeIn K cd27 "told_undone" = true) (i27 : PySem.W.keepIn K (.ref f27) = true)
    (a28 : PySem.W.nsIn K mainGlobals "nothing" = some (some (.ref f28))) (l28 : K.lookup f28 = some ⟨oc28, od28, .func (PySem.W.fnOf "nothing" "nothing" (defArgs s_nothing) (defBody s_nothing) (defScope s_nothing) .none kV28 dc28 pm28 an28 cd28 ct28), sl28⟩) (c28 : PySem.W.codeIn K cd28 "nothing" = true) (i28 : PySem.W.keepIn K (.ref f28) = true)
    (a29 : PySem.W.nsIn K mainGlobals "look_at_position" = some (some (.ref f29))) (l29 : K.lookup f29 = some ⟨oc29, od29, .func (PySem.W.fnOf "look_at_position" "look_at_position" (defArgs s_look_at_position) (defBody s_look_at_position) (defScope s_look_at_position) .none kV29 dc29 pm29 an29 cd29 ct29), sl29⟩) (c29 : PySem.W.codeIn K cd29 "look_at_position" = true) (i29 : PySem.W.keepIn K (.ref f29) = true)
    (a30 : PySem.W.nsIn K mainGlobals "moved" = some (some (.ref f30))) (l30 : K.lookup f30 = some ⟨oc30, od30, .func (PySem.W.fnOf "moved" "moved" (defArgs s_moved) (defBody s_moved) (defScope s_moved) .none kV30 dc30 pm30 an30 cd30 ct30), sl30⟩) (c30 : PySem.W.codeIn K cd30 "moved" = true) (i30 : PySem.W.keepIn K (.ref f30) = true)
    (a31 : PySem.W.nsIn K mainGlobals "keeps" = some (some (.ref f31))) (l31 : K.lookup f31 = some ⟨oc31, od31, .func (PySem.W.fnOf "keeps" "keeps" (defArgs s_keeps) (defBody s_keeps) (defScope s_keeps) .none kV31 dc31 pm31 an31 cd31 ct31), sl31⟩) (c31 : PySem.W.codeIn K cd31 "keeps" = true) (i31 : PySem.W.keepIn K (.ref f31) = true)
    (a32 : PySem.W.nsIn K mainGlobals "told_frame" = some (some (.ref f32))) (l32 : K.lookup f32 = some ⟨oc32, od32, .func (PySem.W.fnOf "told_frame" "told_frame" (defArgs s_told_frame) (defBody s_told_frame) (defScope s_told_frame) .none kV32 dc32 pm32 an32 cd32 ct32), sl32⟩) (c32 : PySem.W.codeIn K cd32 "told_frame" = true) (i32 : PySem.W.keepIn K (.ref f32) = true)
    (a33 : PySem.W.nsIn K mainGlobals "frame" = some (some (.ref f33))) (l33 : K.lookup f33 = some ⟨oc33, od33, .func (PySem.W.fnOf "frame" "frame" (defArgs s_frame) (defBody s_frame) (defScope s_frame) .none kV33 dc33 pm33 an33 cd33 ct33), sl33⟩) (c33 : PySem.W.codeIn K cd33 "frame" = true) (i33 : PySem.W.keepIn K (.ref f33) = true)
    (a34 : PySem.W.nsIn K mainGlobals "shows_frame" = some (some (.ref f34))) (l34 : K.lookup f34 = some ⟨oc34, od34, .func (PySem.W.fnOf "shows_frame" "shows_frame" (defArgs s_shows_frame) (defBody s_shows_frame) (defScope s_shows_frame) .none kV34 dc34 pm34 an34 cd34 ct34), sl34⟩) (c34 : PySem.W.codeIn K cd34 "shows_frame" = true) (i34 : PySem.W.keepIn K (.ref f34) = true)
    (a35 : PySem.W.nsIn K mainGlobals "_law_then" = some (some (.ref f35))) (l35 : K.lookup f35 = some ⟨oc35, od35, .func (PySem.W.fnOf "_law_then" "_law_then" (defArgs s_law_then) (defBody s_law_then) (defScope s_law_then) .none kV35 dc35 pm35 an35 cd35 ct35), sl35⟩) (c35 : PySem.W.codeIn K cd35 "_law_then" = true) (i35 : PySem.W.keepIn K (.ref f35) = true)
    (a36 : PySem.W.nsIn K mainGlobals "_law_code" = some (some (.ref f36))) (l36 : K.lookup f36 = some ⟨oc36, od36, .func (PySem.W.fnOf "_law_code" "_law_code" (defArgs s_law_code) (defBody s_law_code) (defScope s_law_code) .none kV36 dc36 pm36 an36 cd36 ct36), sl36⟩) (c36 : PySem.W.codeIn K cd36 "_law_code" = true) (i36 : PySem.W.keepIn K (.ref f36) = true)
    (a37 : PySem.W.nsIn K mainGlobals "_law_all" = some (some (.ref f37))) (l37 : K.lookup f37 = some ⟨oc37, od37, .func (PySem.W.fnOf "_law_all" "_law_all" (defArgs s_law_all) (defBody s_law_all) (defScope s_law_all) .none kV37 dc37 pm37 an37 cd37 ct37), sl37⟩) (c37 : PySem.W.codeIn K cd37 "_law_all" = true) (i37 : PySem.W.keepIn K (.ref f37) = true)
    (a38 : PySem.W.nsIn K mainGlobals "_law_right" = some (some (.ref f38))) (l38 : K.lookup f38 = some ⟨oc38, od38, .func (PySem.W.fnOf "_law_right" "_law_right" (defArgs s_law_right) (defBody s_law_right) (defScope s_law_right) .none kV38 dc38 pm38 an38 cd38 ct38), sl38⟩) (c38 : PySem.W.codeIn K cd38 "_law_right" = true) (i38 : PySem.W.keepIn K (.ref f38) = true)
    (a39 : PySem.W.nsIn K mainGlobals "law" = some (some (.ref f39))) (l39 : K.lookup f39 = some ⟨oc39, od39, .func (PySem.W.fnOf "law" "law" (defArgs s_law) (defBody s_law) (defScope s_law) .none kV39 dc39 pm39 an39 cd39 ct39), sl39⟩) (c39 : PySem.W.codeIn K cd39 "law" = true) (i39 : PySem.W.keepIn K (.ref f39) = true)
    (z_len : PySem.W.nsIn K mainGlobals "len" = some none) (z_range : PySem.W.nsIn K mainGlobals "range" = some none) (z_tuple : PySem.W.nsIn K mainGlobals "tuple" = some none) (z_list : PySem.W.nsIn K mainGlobals "list" = some none) (z_int : PySem.W.nsIn K mainGlobals "int" = some none) (z_abs : PySem.W.nsIn K mainGlobals "abs" = some none) (z_sum : PySem.W.nsIn K mainGlobals "sum" = some none) (z_max : PySem.W.nsIn K mainGlobals "max" = some none) (z_min : PySem.W.nsIn K mainGlobals "min" = some none) (z_all : PySem.W.nsIn K mainGlobals "all" = some none) (z_enumerate : PySem.W.nsIn K mainGlobals "enumerate" = some none) (z_zip : PySem.W.nsIn K mainGlobals "zip" = some none) (z_isinstance : PySem.W.nsIn K mainGlobals "isinstance" = some none) (z_repr : PySem.W.nsIn K mainGlobals "repr" = some none) (z_bool : PySem.W.nsIn K mainGlobals "bool" = some none) (z_set : PySem.W.nsIn K mainGlobals "set" = some none) (z_sorted : PySem.W.nsIn K mainGlobals "sorted" = some none)
    (q_most_wide : PySem.W.nsIn K mainGlobals "MOST_WIDE" = some (some (.int 32 t_most_wide))) (q_most_spots : PySem.W.nsIn K mainGlobals "MOST_SPOTS" = some (some (.int 8 t_most_spots))) (q_most_mark : PySem.W.nsIn K mainGlobals "MOST_MARK" = some (some (.int 9 t_most_mark)))
    : ∃ fd : FuncData, (∀ (s : Shared) (v : Value), BindsTo s fd ⟨[v], []⟩ [("script", v)]) ∧ ∀ base : Heap, K.In base → base.Ns mainGlobals mg → FnG l.prog w K mg base 11 fa fd ["script"] (spLaw K) := by
  have e := hfa.symm.trans (PySem.W.mg_of X G a39)
  cases e
  have c_Lanes : LCls K C_Lanes := ⟨⟨pg_Lanes, ic_Lanes, po_Lanes, sa_Lanes⟩, ⟨_, ⟨at_Lanes_amount, ge_Lanes_amount, tk_Lanes_amount, ty_Lanes_amount, ix_Lanes_amount, by decide⟩⟩, ⟨_, ⟨at_Lanes_known, ge_Lanes_known, tk_Lanes_known, ty_Lanes_known, ix_Lanes_known, by decide⟩⟩, ⟨_, ⟨at_Lanes_lanes, ge_Lanes_lanes, tk_Lanes_lanes, ty_Lanes_lanes, ix_Lanes_lanes, by decide⟩⟩, ⟨_, ⟨at_Lanes_strong, ge_Lanes_strong, tk_Lanes_strong, ty_Lanes_strong, ix_Lanes_strong, by decide⟩⟩⟩
  have d_Lanes_first_moved : MethIn K C_Lanes "first_moved" "Lanes.first_moved" ["self", "position"] s_Lanes_first_moved := ⟨⟨_, _, fun_mk (st := s_Lanes_first_moved) l1 c1 i1, (fun_mk (st := s_Lanes_first_moved) l1 c1 i1).binds (ps := ["self", "position"]) fun _ _ _ _ _ _ us hl => match us, hl with | [_, _], _ => rfl, ⟨a1, n1, i1⟩⟩⟩
  have d_Lanes_sifted : MethIn K C_Lanes "sifted" "Lanes.sifted" ["self", "position", "start"] s_Lanes_sifted := ⟨⟨_, _, fun_mk (st := s_Lanes_sifted) l2 c2 i2, (fun_mk (st := s_Lanes_sifted) l2 c2 i2).binds (ps := ["self", "position", "start"]) fun _ _ _ _ _ _ us hl => match us, hl with | [_, _, _], _ => rfl, ⟨a2, n2, i2⟩⟩⟩
  have d_Lanes_keepers : MethIn K C_Lanes "keepers" "Lanes.keepers" ["self", "place"] s_Lanes_keepers := ⟨⟨_, _, fun_mk (st := s_Lanes_keepers) l3 c3 i3, (fun_mk (st := s_Lanes_keepers) l3 c3 i3).binds (ps := ["self", "place"]) fun _ _ _ _ _ _ us hl => match us, hl with | [_, _], _ => rfl, ⟨a3, n3, i3⟩⟩⟩
  have d_Lanes_widen : MethIn K C_Lanes "widen" "Lanes.widen" ["self", "place"] s_Lanes_widen := ⟨⟨_, _, fun_mk (st := s_Lanes_widen) l4 c4 i4, (fun_mk (st := s_Lanes_widen) l4 c4 i4).binds (ps := ["self", "place"]) fun _ _ _ _ _ _ us hl => match us, hl with | [_, _], _ => rfl, ⟨a4, n4, i4⟩⟩⟩
  have d_Lanes_left_at : MethIn K C_Lanes "left_at" "Lanes.left_at" ["self", "place"] s_Lanes_left_at := ⟨⟨_, _, fun_mk (st := s_Lanes_left_at) l5 c5 i5, (fun_mk (st := s_Lanes_left_at) l5 c5 i5).binds (ps := ["self", "place"]) fun _ _ _ _ _ _ us hl => match us, hl with | [_, _], _ => rfl, ⟨a5, n5, i5⟩⟩⟩
  have d_Lanes_first_left : MethIn K C_Lanes "first_left" "Lanes.first_left" ["self", "start"] s_Lanes_first_left := ⟨⟨_, _, fun_mk (st := s_Lanes_first_left) l6 c6 i6, (fun_mk (st := s_Lanes_first_left) l6 c6 i6).binds (ps := ["self", "start"]) fun _ _ _ _ _ _ us hl => match us, hl with | [_, _], _ => rfl, ⟨a6, n6, i6⟩⟩⟩
  have d_Lanes_has : MethIn K C_Lanes "has" "Lanes.has" ["self", "position"] s_Lanes_has := ⟨⟨_, _, fun_mk (st := s_Lanes_has) l7 c7 i7, (fun_mk (st := s_Lanes_has) l7 c7 i7).binds (ps := ["self", "position"]) fun _ _ _ _ _ _ us hl => match us, hl with | [_, _], _ => rfl, ⟨a7, n7, i7⟩⟩⟩
  have d_Lanes_take : MethIn K C_Lanes "take" "Lanes.take" ["self", "position"] s_Lanes_take := ⟨⟨_, _, fun_mk (st := s_Lanes_take) l8 c8 i8, (fun_mk (st := s_Lanes_take) l8 c8 i8).binds (ps := ["self", "position"]) fun _ _ _ _ _ _ us hl => match us, hl with | [_, _], _ => rfl, ⟨a8, n8, i8⟩⟩⟩
  have d_Lanes_count : MethIn K C_Lanes "count" "Lanes.count" ["self"] s_Lanes_count := ⟨⟨_, _, fun_mk (st := s_Lanes_count) l9 c9 i9, (fun_mk (st := s_Lanes_count) l9 c9 i9).binds (ps := ["self"]) fun _ _ _ _ _ _ us hl => match us, hl with | [_], _ => rfl, ⟨a9, n9, i9⟩⟩⟩
  have d_Lanes_init : MethIn K C_Lanes "__init__" "Lanes.__init__" ["self", "many", "turns"] s_Lanes_init := ⟨⟨_, _, fun_mk (st := s_Lanes_init) l10 c10 i10, (fun_mk (st := s_Lanes_init) l10 c10 i10).binds (ps := ["self", "many", "turns"]) fun _ _ _ _ _ _ us hl => match us, hl with | [_, _, _], _ => rfl, ⟨a10, n10, i10⟩⟩⟩
  have d_law_pot : DefIn K mg "_law_pot" ["script", "place"] s_law_pot := ⟨⟨_, _, fun_mk (st := s_law_pot) l11 c11 i11, PySem.W.mg_of X G a11, (fun_mk (st := s_law_pot) l11 c11 i11).binds (ps := ["script", "place"]) fun _ _ _ _ _ _ us hl => match us, hl with | [_, _], _ => rfl⟩⟩
  have d_law_take : DefIn K mg "_law_take" ["pot", "upto"] s_law_take := ⟨⟨_, _, fun_mk (st := s_law_take) l12 c12 i12, PySem.W.mg_of X G a12, (fun_mk (st := s_law_take) l12 c12 i12).binds (ps := ["pot", "upto"]) fun _ _ _ _ _ _ us hl => match us, hl with | [_, _], _ => rfl⟩⟩
  have d_law_cells : DefIn K mg "_law_cells" ["script", "most"] s_law_cells := ⟨⟨_, _, fun_mk (st := s_law_cells) l13 c13 i13, PySem.W.mg_of X G a13, (fun_mk (st := s_law_cells) l13 c13 i13).binds (ps := ["script", "most"]) fun _ _ _ _ _ _ us hl => match us, hl with | [_, _], _ => rfl⟩⟩
  have d_is_int : DefIn K mg "is_int" ["value", "low", "high"] s_is_int := ⟨⟨_, _, fun_mk (st := s_is_int) l14 c14 i14, PySem.W.mg_of X G a14, (fun_mk (st := s_is_int) l14 c14 i14).binds (ps := ["value", "low", "high"]) fun _ _ _ _ _ _ us hl => match us, hl with | [_, _, _], _ => rfl⟩⟩
  have d_is_position_of : DefIn K mg "is_position_of" ["many", "value"] s_is_position_of := ⟨⟨_, _, fun_mk (st := s_is_position_of) l15 c15 i15, PySem.W.mg_of X G a15, (fun_mk (st := s_is_position_of) l15 c15 i15).binds (ps := ["many", "value"]) fun _ _ _ _ _ _ us hl => match us, hl with | [_, _], _ => rfl⟩⟩
  have d_is_picture : DefIn K mg "is_picture" ["value"] s_is_picture := ⟨⟨_, _, fun_mk (st := s_is_picture) l16 c16 i16, PySem.W.mg_of X G a16, (fun_mk (st := s_is_picture) l16 c16 i16).binds (ps := ["value"]) fun _ _ _ _ _ _ us hl => match us, hl with | [_], _ => rfl⟩⟩
  have d_look_at_picture : DefIn K mg "look_at_picture" ["picture"] s_look_at_picture := ⟨⟨_, _, fun_mk (st := s_look_at_picture) l17 c17 i17, PySem.W.mg_of X G a17, (fun_mk (st := s_look_at_picture) l17 c17 i17).binds (ps := ["picture"]) fun _ _ _ _ _ _ us hl => match us, hl with | [_], _ => rfl⟩⟩
  have d_told_moved : DefIn K mg "told_moved" ["picture", "position"] s_told_moved := ⟨⟨_, _, fun_mk (st := s_told_moved) l18 c18 i18, PySem.W.mg_of X G a18, (fun_mk (st := s_told_moved) l18 c18 i18).binds (ps := ["picture", "position"]) fun _ _ _ _ _ _ us hl => match us, hl with | [_, _], _ => rfl⟩⟩
  have d_marks_with : DefIn K mg "marks_with" ["picture", "chosen", "place"] s_marks_with := ⟨⟨_, _, fun_mk (st := s_marks_with) l19 c19 i19, PySem.W.mg_of X G a19, (fun_mk (st := s_marks_with) l19 c19 i19).binds (ps := ["picture", "chosen", "place"]) fun _ _ _ _ _ _ us hl => match us, hl with | [_, _, _], _ => rfl⟩⟩
  have d_least_orders : DefIn K mg "least_orders" ["picture"] s_least_orders := ⟨⟨_, _, fun_mk (st := s_least_orders) l20 c20 i20, PySem.W.mg_of X G a20, (fun_mk (st := s_least_orders) l20 c20 i20).binds (ps := ["picture"]) fun _ _ _ _ _ _ us hl => match us, hl with | [_], _ => rfl⟩⟩
  have d_position_by : DefIn K mg "position_by" ["order"] s_position_by := ⟨⟨_, _, fun_mk (st := s_position_by) l21 c21 i21, PySem.W.mg_of X G a21, (fun_mk (st := s_position_by) l21 c21 i21).binds (ps := ["order"]) fun _ _ _ _ _ _ us hl => match us, hl with | [_], _ => rfl⟩⟩
  have d_least_picture : DefIn K mg "least_picture" ["picture"] s_least_picture := ⟨⟨_, _, fun_mk (st := s_least_picture) l22 c22 i22, PySem.W.mg_of X G a22, (fun_mk (st := s_least_picture) l22 c22 i22).binds (ps := ["picture"]) fun _ _ _ _ _ _ us hl => match us, hl with | [_], _ => rfl⟩⟩
  have d_law_picture_drawn : DefIn K mg "_law_picture_drawn" ["pot", "most"] s_law_picture_drawn := ⟨⟨_, _, fun_mk (st := s_law_picture_drawn) l23 c23 i23, PySem.W.mg_of X G a23, (fun_mk (st := s_law_picture_drawn) l23 c23 i23).binds (ps := ["pot", "most"]) fun _ _ _ _ _ _ us hl => match us, hl with | [_, _], _ => rfl⟩⟩
  have d_law_moved : DefIn K mg "_law_moved" ["picture", "position"] s_law_moved := ⟨⟨_, _, fun_mk (st := s_law_moved) l24 c24 i24, PySem.W.mg_of X G a24, (fun_mk (st := s_law_moved) l24 c24 i24).binds (ps := ["picture", "position"]) fun _ _ _ _ _ _ us hl => match us, hl with | [_, _], _ => rfl⟩⟩
  have d_law_every : DefIn K mg "_law_every" ["many"] s_law_every := ⟨⟨_, _, fun_mk (st := s_law_every) l25 c25 i25, PySem.W.mg_of X G a25, (fun_mk (st := s_law_every) l25 c25 i25).binds (ps := ["many"]) fun _ _ _ _ _ _ us hl => match us, hl with | [_], _ => rfl⟩⟩
  have d_told_then : DefIn K mg "told_then" ["one", "other"] s_told_then := ⟨⟨_, _, fun_mk (st := s_told_then) l26 c26 i26, PySem.W.mg_of X G a26, (fun_mk (st := s_told_then) l26 c26 i26).binds (ps := ["one", "other"]) fun _ _ _ _ _ _ us hl => match us, hl with | [_, _], _ => rfl⟩⟩
  have d_told_undone : DefIn K mg "told_undone" ["position"] s_told_undone := ⟨⟨_, _, fun_mk (st := s_told_undone) l27 c27 i27, PySem.W.mg_of X G a27, (fun_mk (st := s_told_undone) l27 c27 i27).binds (ps := ["position"]) fun _ _ _ _ _ _ us hl => match us, hl with | [_], _ => rfl⟩⟩
  have d_nothing : DefIn K mg "nothing" ["many"] s_nothing := ⟨⟨_, _, fun_mk (st := s_nothing) l28 c28 i28, PySem.W.mg_of X G a28, (fun_mk (st := s_nothing) l28 c28 i28).binds (ps := ["many"]) fun _ _ _ _ _ _ us hl => match us, hl with | [_], _ => rfl⟩⟩
  have d_look_at_position : DefIn K mg "look_at_position" ["position"] s_look_at_position := ⟨⟨_, _, fun_mk (st := s_look_at_position) l29 c29 i29, PySem.W.mg_of X G a29, (fun_mk (st := s_look_at_position) l29 c29 i29).binds (ps := ["position"]) fun _ _ _ _ _ _ us hl => match us, hl with | [_], _ => rfl⟩⟩
  have d_moved : DefIn K mg "moved" ["picture", "position"] s_moved := ⟨⟨_, _, fun_mk (st := s_moved) l30 c30 i30, PySem.W.mg_of X G a30, (fun_mk (st := s_moved) l30 c30 i30).binds (ps := ["picture", "position"]) fun _ _ _ _ _ _ us hl => match us, hl with | [_, _], _ => rfl⟩⟩
  have d_keeps : DefIn K mg "keeps" ["picture", "position"] s_keeps := ⟨⟨_, _, fun_mk (st := s_keeps) l31 c31 i31, PySem.W.mg_of X G a31, (fun_mk (st := s_keeps) l31 c31 i31).binds (ps := ["picture", "position"]) fun _ _ _ _ _ _ us hl => match us, hl with | [_, _], _ => rfl⟩⟩
  have d_told_frame : DefIn K mg "told_frame" ["picture"] s_told_frame := ⟨⟨_, _, fun_mk (st := s_told_frame) l32 c32 i32, PySem.W.mg_of X G a32, (fun_mk (st := s_told_frame) l32 c32 i32).binds (ps := ["picture"]) fun _ _ _ _ _ _ us hl => match us, hl with | [_], _ => rfl⟩⟩
  have d_frame : DefIn K mg "frame" ["picture"] s_frame := ⟨⟨_, _, fun_mk (st := s_frame) l33 c33 i33, PySem.W.mg_of X G a33, (fun_mk (st := s_frame) l33 c33 i33).binds (ps := ["picture"]) fun _ _ _ _ _ _ us hl => match us, hl with | [_], _ => rfl⟩⟩
  have d_shows_frame : DefIn K mg "shows_frame" ["picture", "value"] s_shows_frame := ⟨⟨_, _, fun_mk (st := s_shows_frame) l34 c34 i34, PySem.W.mg_of X G a34, (fun_mk (st := s_shows_frame) l34 c34 i34).binds (ps := ["picture", "value"]) fun _ _ _ _ _ _ us hl => match us, hl with | [_, _], _ => rfl⟩⟩
  have d_law_then : DefIn K mg "_law_then" ["one", "other"] s_law_then := ⟨⟨_, _, fun_mk (st := s_law_then) l35 c35 i35, PySem.W.mg_of X G a35, (fun_mk (st := s_law_then) l35 c35 i35).binds (ps := ["one", "other"]) fun _ _ _ _ _ _ us hl => match us, hl with | [_, _], _ => rfl⟩⟩
  have d_law_code : DefIn K mg "_law_code" ["picture"] s_law_code := ⟨⟨_, _, fun_mk (st := s_law_code) l36 c36 i36, PySem.W.mg_of X G a36, (fun_mk (st := s_law_code) l36 c36 i36).binds (ps := ["picture"]) fun _ _ _ _ _ _ us hl => match us, hl with | [_], _ => rfl⟩⟩
  have d_law_all : DefIn K mg "_law_all" ["many", "turns", "most"] s_law_all := ⟨⟨_, _, fun_mk (st := s_law_all) l37 c37 i37, PySem.W.mg_of X G a37, (fun_mk (st := s_law_all) l37 c37 i37).binds (ps := ["many", "turns", "most"]) fun _ _ _ _ _ _ us hl => match us, hl with | [_, _, _], _ => rfl⟩⟩
  have d_law_right : DefIn K mg "_law_right" ["pot"] s_law_right := ⟨⟨_, _, fun_mk (st := s_law_right) l38 c38 i38, PySem.W.mg_of X G a38, (fun_mk (st := s_law_right) l38 c38 i38).binds (ps := ["pot"]) fun _ _ _ _ _ _ us hl => match us, hl with | [_], _ => rfl⟩⟩
  have d_law : DefIn K mg "law" ["script"] s_law := ⟨⟨_, _, fun_mk (st := s_law) l39 c39 i39, PySem.W.mg_of X G a39, (fun_mk (st := s_law) l39 c39 i39).binds (ps := ["script"]) fun _ _ _ _ _ _ us hl => match us, hl with | [_], _ => rfl⟩⟩
  have B : Bt mg := { len := PySem.W.mg_none_of X G z_len, range := PySem.W.mg_none_of X G z_range, tuple := PySem.W.mg_none_of X G z_tuple, list := PySem.W.mg_none_of X G z_list, int := PySem.W.mg_none_of X G z_int, abs := PySem.W.mg_none_of X G z_abs, sum := PySem.W.mg_none_of X G z_sum, max := PySem.W.mg_none_of X G z_max, min := PySem.W.mg_none_of X G z_min, all := PySem.W.mg_none_of X G z_all, enumerate := PySem.W.mg_none_of X G z_enumerate, zip := PySem.W.mg_none_of X G z_zip, isinstance := PySem.W.mg_none_of X G z_isinstance, repr := PySem.W.mg_none_of X G z_repr, bool := PySem.W.mg_none_of X G z_bool, set := PySem.W.mg_none_of X G z_set, sorted := PySem.W.mg_none_of X G z_sorted }
  have C : Cs mg := ⟨⟨_, PySem.W.mg_of X G q_most_wide⟩, ⟨_, PySem.W.mg_of X G q_most_spots⟩, ⟨_, PySem.W.mg_of X G q_most_mark⟩⟩
  refine ⟨PySem.W.fnOf "law" "law" (defArgs s_law) (defBody s_law) (defScope s_law) .none kV39 dc39 pm39 an39 cd39 ct39, fun s v => .of_eq rfl, fun base _ _ => ?_⟩
  have o_law_pot := ok_pot (P := l.prog) (w := w) (base := base) B d_law_pot
  have o_law_take := ok_take (P := l.prog) (w := w) (base := base) B d_law_take
  have o_law_cells := ok_cells (P := l.prog) (w := w) (base := base) B d_law_cells
  have o_is_int := ok_is_int (P := l.prog) (w := w) (base := base) B d_is_int
  have o_is_position_of := ok_is_position_of (P := l.prog) (w := w) (base := base) B o_is_int d_is_position_of
  have o_is_picture := ok_is_picture (P := l.prog) (w := w) (base := base) B C o_is_int d_is_picture
  have o_look_at_picture := ok_look_at_picture (P := l.prog) (w := w) (base := base) B o_is_picture d_look_at_picture
  have o_told_moved := ok_told_moved (P := l.prog) (w := w) (base := base) B d_told_moved
  have o_marks_with := ok_marks (P := l.prog) (w := w) (base := base) B d_marks_with
  have o_least_orders := ok_orders (P := l.prog) (w := w) (base := base) B o_marks_with d_least_orders
  have o_position_by := ok_posby (P := l.prog) (w := w) (base := base) B d_position_by
  have o_least_picture := ok_least (P := l.prog) (w := w) (base := base) B o_look_at_picture o_least_orders o_position_by o_told_moved d_least_picture
  have o_law_picture_drawn := ok_pic (P := l.prog) (w := w) (base := base) B o_law_take d_law_picture_drawn
  have o_law_moved := ok_law_moved (P := l.prog) (w := w) (base := base) B d_law_moved
  have o_law_every := ok_every (P := l.prog) (w := w) (base := base) B d_law_every
  have o_told_then := ok_told_then (P := l.prog) (w := w) (base := base) B d_told_then
  have o_told_undone := ok_told_undone (P := l.prog) (w := w) (base := base) B d_told_undone
  have o_nothing := ok_nothing (P := l.prog) (w := w) (base := base) B d_nothing
  have o_Lanes_first_moved := ok_Lanes_first_moved (P := l.prog) (w := w) (base := base) B d_Lanes_first_moved
  have o_Lanes_sifted := ok_Lanes_sifted (P := l.prog) (w := w) (base := base) B c_Lanes o_told_then o_told_undone d_Lanes_sifted
  have o_Lanes_keepers := ok_Lanes_keepers (P := l.prog) (w := w) (base := base) B c_Lanes o_Lanes_first_moved d_Lanes_keepers
  have o_Lanes_widen := ok_Lanes_widen (P := l.prog) (w := w) (base := base) B c_Lanes o_told_then o_Lanes_keepers d_Lanes_widen
  have o_Lanes_left_at := ok_Lanes_left_at (P := l.prog) (w := w) (base := base) B c_Lanes o_told_then o_told_undone o_Lanes_first_moved o_Lanes_sifted o_Lanes_keepers d_Lanes_left_at
  have o_Lanes_first_left := ok_Lanes_first_left (P := l.prog) (w := w) (base := base) B c_Lanes o_Lanes_widen o_Lanes_left_at d_Lanes_first_left
  have o_Lanes_has := ok_Lanes_has (P := l.prog) (w := w) (base := base) B c_Lanes o_Lanes_first_moved o_Lanes_sifted d_Lanes_has
  have o_Lanes_take := ok_Lanes_take (P := l.prog) (w := w) (base := base) B c_Lanes o_Lanes_first_moved o_Lanes_sifted o_Lanes_first_left d_Lanes_take
  have o_Lanes_count := ok_Lanes_count (P := l.prog) (w := w) (base := base) B c_Lanes d_Lanes_count
  have o_Lanes_init := ok_Lanes_init (P := l.prog) (w := w) (base := base) B c_Lanes o_nothing o_Lanes_take d_Lanes_init
  obtain ⟨fi_Lanes, hi_Lanes, Fi_Lanes⟩ := o_Lanes_init
  have o_Lanes : Okc l.prog w K mg base "Lanes" 6 C_Lanes (spInitL K C_Lanes) := ⟨fi_Lanes, ⟨mk_Lanes, hi_Lanes.at_, hi_Lanes.fn, kp_Lanes⟩, Fi_Lanes, PySem.W.mg_of X G g_Lanes⟩
  have o_look_at_position := ok_look_at_position (P := l.prog) (w := w) (base := base) B C o_is_position_of d_look_at_position
  have o_moved := ok_moved (P := l.prog) (w := w) (base := base) B o_look_at_picture o_look_at_position o_told_moved d_moved
  have o_keeps := ok_keeps (P := l.prog) (w := w) (base := base) B o_moved d_keeps
  have o_told_frame := ok_told_frame (P := l.prog) (w := w) (base := base) B c_Lanes o_least_orders o_Lanes o_Lanes_has o_Lanes_take d_told_frame
  have o_frame := ok_frame (P := l.prog) (w := w) (base := base) B o_look_at_picture o_told_frame d_frame
  have o_shows_frame := ok_shows_frame (P := l.prog) (w := w) (base := base) B c_Lanes o_look_at_picture o_is_position_of o_told_moved o_is_int o_least_orders o_Lanes o_Lanes_count d_shows_frame
  have o_law_then := ok_law_then (P := l.prog) (w := w) (base := base) B d_law_then
  have o_law_code := ok_law_code (P := l.prog) (w := w) (base := base) B d_law_code
  have o_law_all := ok_law_all (P := l.prog) (w := w) (base := base) B o_law_then d_law_all
  have o_law_right := ok_right (P := l.prog) (w := w) (base := base) B o_law_picture_drawn o_law_every o_law_moved o_frame o_keeps o_law_all o_shows_frame o_law_code o_least_picture d_law_right
  have o_law := ok_law (P := l.prog) (w := w) (base := base) B o_law_pot o_law_cells o_law_right d_law
  obtain ⟨f, fd, g, F, _, FG⟩ := o_law
  have ef := g.symm.trans (PySem.W.mg_of X G a39)
  cases ef
  have ed := fun_uniq F (fun_mk (st := s_law) l39 c39 i39)
  subst ed
  exact FG
end WT
open PySem PySem.W PyProof.Rows in
set_option maxHeartbeats 0 in
theorem PySem.Challenge.cw_whicheverturning_k13_whole_frames_of_pic_holds : PySem.Challenge.rw_whicheverturning_k13_whole_frames_of_pic.Holds := by
  w_on; o_law; k_head; (case hw => w_witness2)
  k_fill
  refine WT.walkG (l := PySem.Challenge.rw_whicheverturning_k13_whole_frames_of_pic) (n := 63) (k := 11) (x := "script") (sp := WT.spLaw) rfl (by decide) rfl ⟨rfl, by decide, by decide⟩ (fun w h Y => PySem.W.kIn_of Y) ?F (fun _ _ a ns hl _ hS => ⟨a, ns, rfl, hS, hl, fun _ => rfl⟩)
  case F =>
    intro w mg fa h KX G hmg
    refine' WT.all_mk KX G hmg ?g_Lanes ?pg_Lanes ?ic_Lanes ?po_Lanes ?sa_Lanes ?mk_Lanes ?kp_Lanes ?at_Lanes_amount ?ge_Lanes_amount ?tk_Lanes_amount ?ty_Lanes_amount ?ix_Lanes_amount ?at_Lanes_known ?ge_Lanes_known ?tk_Lanes_known ?ty_Lanes_known ?ix_Lanes_known ?at_Lanes_lanes ?ge_Lanes_lanes ?tk_Lanes_lanes ?ty_Lanes_lanes ?ix_Lanes_lanes ?at_Lanes_strong ?ge_Lanes_strong ?tk_Lanes_strong ?ty_Lanes_strong ?ix_Lanes_strong ?a1 ?n1 ?l1 ?c1 ?i1 ?a2 ?n2 ?l2 ?c2 ?i2 ?a3 ?n3 ?l3 ?c3 ?i3 ?a4 ?n4 ?l4 ?c4 ?i4 ?a5 ?n5 ?l5 ?c5 ?i5 ?a6 ?n6 ?l6 ?c6 ?i6 ?a7 ?n7 ?l7 ?c7 ?i7 ?a8 ?n8 ?l8 ?c8 ?i8 ?a9 ?n9 ?l9 ?c9 ?i9 ?a10 ?n10 ?l10 ?c10 ?i10 ?a11 ?l11 ?c11 ?i11 ?a12 ?l12 ?c12 ?i12 ?a13 ?l13 ?c13 ?i13 ?a14 ?l14 ?c14 ?i14 ?a15 ?l15 ?c15 ?i15 ?a16 ?l16 ?c16 ?i16 ?a17 ?l17 ?c17 ?i17 ?a18 ?l18 ?c18 ?i18 ?a19 ?l19 ?c19 ?i19 ?a20 ?l20 ?c20 ?i20 ?a21 ?l21 ?c21 ?i21 ?a22 ?l22 ?c22 ?i22 ?a23 ?l23 ?c23 ?i23 ?a24 ?l24 ?c24 ?i24 ?a25 ?l25 ?c25 ?i25 ?a26 ?l26 ?c26 ?i26 ?a27 ?l27 ?c27 ?i27 ?a28 ?l28 ?c28 ?i28 ?a29 ?l29 ?c29 ?i29 ?a30 ?l30 ?c30 ?i30 ?a31 ?l31 ?c31 ?i31 ?a32 ?l32 ?c32 ?i32 ?a33 ?l33 ?c33 ?i33 ?a34 ?l34 ?c34 ?i34 ?a35 ?l35 ?c35 ?i35 ?a36 ?l36 ?c36 ?i36 ?a37 ?l37 ?c37 ?i37 ?a38 ?l38 ?c38 ?i38 ?a39 ?l39 ?c39 ?i39 ?z_len ?z_range ?z_tuple ?z_list ?z_int ?z_abs ?z_sum ?z_max ?z_min ?z_all ?z_enumerate ?z_zip ?z_isinstance ?z_repr ?z_bool ?z_set ?z_sorted ?q_most_wide ?q_most_spots ?q_most_mark
    (case g_Lanes => k_is)
    (case pg_Lanes => k_is)
    (case ic_Lanes => k_is)
    (case po_Lanes => k_is)
    (case sa_Lanes => k_is)
    (case mk_Lanes => k_is)
    (case kp_Lanes => k_is)
    (case at_Lanes_amount => k_is)
    (case ge_Lanes_amount => k_is)
    (case tk_Lanes_amount => k_is)
    (case ty_Lanes_amount => k_is)
    (case ix_Lanes_amount => k_is)
    (case at_Lanes_known => k_is)
    (case ge_Lanes_known => k_is)
    (case tk_Lanes_known => k_is)
    (case ty_Lanes_known => k_is)
    (case ix_Lanes_known => k_is)
    (case at_Lanes_lanes => k_is)
    (case ge_Lanes_lanes => k_is)
    (case tk_Lanes_lanes => k_is)
    (case ty_Lanes_lanes => k_is)
    (case ix_Lanes_lanes => k_is)
    (case at_Lanes_strong => k_is)
    (case ge_Lanes_strong => k_is)
    (case tk_Lanes_strong => k_is)
    (case ty_Lanes_strong => k_is)
    (case ix_Lanes_strong => k_is)
    (case a1 => k_is)
    (case n1 => k_is)
    (case l1 => k_is)
    (case c1 => k_is)
    (case i1 => k_is)
    (case a2 => k_is)
    (case n2 => k_is)
    (case l2 => k_is)
    (case c2 => k_is)
    (case i2 => k_is)
    (case a3 => k_is)
    (case n3 => k_is)
    (case l3 => k_is)
    (case c3 => k_is)
    (case i3 => k_is)
    (case a4 => k_is)
    (case n4 => k_is)
    (case l4 => k_is)
    (case c4 => k_is)
    (case i4 => k_is)
    (case a5 => k_is)
    (case n5 => k_is)
    (case l5 => k_is)
    (case c5 => k_is)
    (case i5 => k_is)
    (case a6 => k_is)
    (case n6 => k_is)
    (case l6 => k_is)
    (case c6 => k_is)
    (case i6 => k_is)
    (case a7 => k_is)
    (case n7 => k_is)
    (case l7 => k_is)
    (case c7 => k_is)
    (case i7 => k_is)
    (case a8 => k_is)
    (case n8 => k_is)
    (case l8 => k_is)
    (case c8 => k_is)
    (case i8 => k_is)
    (case a9 => k_is)
    (case n9 => k_is)
    (case l9 => k_is)
    (case c9 => k_is)
    (case i9 => k_is)
    (case a10 => k_is)
    (case n10 => k_is)
    (case l10 => k_is)
    (case c10 => k_is)
    (case i10 => k_is)
    (case a11 => k_is)
    (case l11 => k_is)
    (case c11 => k_is)
    (case i11 => k_is)
    (case a12 => k_is)
    (case l12 => k_is)
    (case c12 => k_is)
    (case i12 => k_is)
    (case a13 => k_is)
    (case l13 => k_is)
    (case c13 => k_is)
    (case i13 => k_is)
    (case a14 => k_is)
    (case l14 => k_is)
    (case c14 => k_is)
    (case i14 => k_is)
    (case a15 => k_is)
    (case l15 => k_is)
    (case c15 => k_is)
    (case i15 => k_is)
    (case a16 => k_is)
    (case l16 => k_is)
    (case c16 => k_is)
    (case i16 => k_is)
    (case a17 => k_is)
    (case l17 => k_is)
    (case c17 => k_is)
    (case i17 => k_is)
    (case a18 => k_is)
    (case l18 => k_is)
    (case c18 => k_is)
    (case i18 => k_is)
    (case a19 => k_is)
    (case l19 => k_is)
    (case c19 => k_is)
    (case i19 => k_is)
    (case a20 => k_is)
    (case l20 => k_is)
    (case c20 => k_is)
    (case i20 => k_is)
    (case a21 => k_is)
    (case l21 => k_is)
    (case c21 => k_is)
    (case i21 => k_is)
    (case a22 => k_is)
    (case l22 => k_is)
    (case c22 => k_is)
    (case i22 => k_is)
    (case a23 => k_is)
    (case l23 => k_is)
    (case c23 => k_is)
    (case i23 => k_is)
    (case a24 => k_is)
    (case l24 => k_is)
    (case c24 => k_is)
    (case i24 => k_is)
    (case a25 => k_is)
    (case l25 => k_is)
    (case c25 => k_is)
    (case i25 => k_is)
    (case a26 => k_is)
    (case l26 => k_is)
    (case c26 => k_is)
    (case i26 => k_is)
    (case a27 => k_is)
    (case l27 => k_is)
    (case c27 => k_is)
    (case i27 => k_is)
    (case a28 => k_is)
    (case l28 => k_is)
    (case c28 => k_is)
    (case i28 => k_is)
    (case a29 => k_is)
    (case l29 => k_is)
    (case c29 => k_is)
    (case i29 => k_is)
    (case a30 => k_is)
    (case l30 => k_is)
    (case c30 => k_is)
    (case i30 => k_is)
    (case a31 => k_is)
    (case l31 => k_is)
    (case c31 => k_is)
    (case i31 => k_is)
    (case a32 => k_is)
    (case l32 => k_is)
    (case c32 => k_is)
    (case i32 => k_is)
    (case a33 => k_is)
    (case l33 => k_is)
    (case c33 => k_is)
    (case i33 => k_is)
    (case a34 => k_is)
    (case l34 => k_is)
    (case c34 => k_is)
    (case i34 => k_is)
    (case a35 => k_is)
    (case l35 => k_is)
    (case c35 => k_is)
    (case i35 => k_is)
    (case a36 => k_is)
    (case l36 => k_is)
    (case c36 => k_is)
    (case i36 => k_is)
    (case a37 => k_is)
    (case l37 => k_is)
    (case c37 => k_is)
    (case i37 => k_is)
    (case a38 => k_is)
    (case l38 => k_is)
    (case c38 => k_is)
    (case i38 => k_is)
    (case a39 => k_is)
    (case l39 => k_is)
    (case c39 => k_is)
    (case i39 => k_is)
    (case z_len => k_is)
    (case z_range => k_is)
    (case z_tuple => k_is)
    (case z_list => k_is)
    (case z_int => k_is)
    (case z_abs => k_is)
    (case z_sum => k_is)
    (case z_max => k_is)
    (case z_min => k_is)
    (case z_all => k_is)
    (case z_enumerate => k_is)
    (case z_zip => k_is)
    (case z_isinstance => k_is)
    (case z_repr => k_is)
    (case z_bool => k_is)
    (case z_set => k_is)
    (case z_sorted => k_is)
    (case q_most_wide => k_is)
    (case q_most_spots => k_is)
    (case q_most_mark => k_is)
