import PyProof.Rows.All
import Wide.All
import OpenK.AllK
import Wide.FinOn
import HandS.ForMost
import HandS.Wide
import HandS.Evl
import HandS.Star
import HandS.Zip
import HandS.IsInst
import HandS.Style
import HandS.TupAny
import HandS.Walk
import HandS.SetFor
import HandS.RaiseMore
import KE.DataMinMax
import KE.GoesMore
import KE.GoesEnum
import HandS.Conv
import HandS.Deep
import PyProof.ReprLen
import PySem.Challenge.RW_whicheverturning_k14_whole_pictures_that
set_option Elab.async false
set_option linter.all false
set_option maxRecDepth 100000
set_option maxHeartbeats 4000000
/-! Toolkit 1: frozen data (None, bools, ints, texts, tuples of these) held by values; what evaluates to such data. -/
namespace WT
open PySem PySem.Spec PyProof.Rows L2 Evl
/-! ### frozen data -/
mutual
def Fz (K : PySem.W.Frag) (H : Hp) : PyData → V → Prop
  | .none, v => v = .non
  | .bool b, v => v = .bl b
  | .int i, v => v = .int i
  | .str s, v => v = .str s
  | .tuple ds, v => ∃ a xs, v = .ref a ∧ SqT K H a xs ∧ FzL K H ds xs
  | .list _, _ => False
  | .dict _, _ => False
def FzL (K : PySem.W.Frag) (H : Hp) : List PyData → List V → Prop
  | [], xs => xs = []
  | d :: ds, xs => ∃ v r, xs = v :: r ∧ Fz K H d v ∧ FzL K H ds r
end
/-- what was a tuple is one still -/
def TEx (H H' : Hp) : Prop := ∀ a xs, Rd H a (.tup xs) → Rd H' a (.tup xs)
theorem TEx.refl (H : Hp) : TEx H H := fun _ _ h => h
theorem TEx.trans {H H1 H2 : Hp} (a : TEx H H1) (b : TEx H1 H2) : TEx H H2 := fun x xs h => b x xs (a x xs h)
theorem tex_of {H H' : Hp} (e : Ex H H') : TEx H H' := fun _ _ h => ex_rd e h
/-- a list is changed -/
theorem tex_lst {H : Hp} {p : Addr} {xs : List V} {o : HO} (h : H p = some (.lst xs)) : TEx H (upd H p o) := fun a ys r => by
  have n : a ≠ p := fun e => by
    subst e
    rcases r with r | ⟨q, r⟩ <;> rw [h] at r <;> cases r
  rcases r with r | ⟨q, r⟩
  · exact .inl (by rw [upd_ne n]; exact r)
  · exact .inr ⟨q, by rw [upd_ne n]; exact r⟩
theorem tex_t {K : PySem.W.Frag} {H H' : Hp} {a : Addr} {xs : List V} (e : TEx H H') (h : SqT K H a xs) : SqT K H' a xs := by
  rcases h with h | h
  · exact .inl (e _ _ h)
  · exact .inr h
section
variable {K : PySem.W.Frag} {H H' : Hp}
mutual
theorem Fz.mono (e : TEx H H') : ∀ (d : PyData) (v : V), Fz K H d v → Fz K H' d v
  | .none, _, h => h
  | .bool _, _, h => h
  | .int _, _, h => h
  | .str _, _, h => h
  | .tuple ds, v, h => by
    simp only [Fz] at h ⊢
    obtain ⟨a, xs, hv, hs, hf⟩ := h
    exact ⟨a, xs, hv, tex_t e hs, FzL.mono e ds xs hf⟩
  | .list _, _, h => h
  | .dict _, _, h => h
theorem FzL.mono (e : TEx H H') : ∀ (ds : List PyData) (xs : List V), FzL K H ds xs → FzL K H' ds xs
  | [], _, h => h
  | d :: ds, xs, h => by
    simp only [FzL] at h ⊢
    obtain ⟨v, r, hx, h1, h2⟩ := h
    exact ⟨v, r, hx, Fz.mono e d v h1, FzL.mono e ds r h2⟩
end
theorem fz_ex {d : PyData} {v : V} (e : Ex H H') (h : Fz K H d v) : Fz K H' d v := Fz.mono (tex_of e) d v h
theorem fzl_ex {ds : List PyData} {xs : List V} (e : Ex H H') (h : FzL K H ds xs) : FzL K H' ds xs := FzL.mono (tex_of e) ds xs h
theorem fz_int {i : Int} : Fz K H (.int i) (.int i) := by simp only [Fz]
theorem fz_str {s : Str} : Fz K H (.str s) (.str s) := by simp only [Fz]
theorem fz_bl {b : Bool} : Fz K H (.bool b) (.bl b) := by simp only [Fz]
theorem fz_non : Fz K H .none .non := by simp only [Fz]
theorem fz_tup {ds : List PyData} {a : Addr} {xs : List V} (h : SqT K H a xs) (f : FzL K H ds xs) : Fz K H (.tuple ds) (.ref a) := by
  simp only [Fz]
  exact ⟨a, xs, rfl, h, f⟩
theorem fz_tupI {ds : List PyData} {v : V} (h : Fz K H (.tuple ds) v) : ∃ a xs, v = .ref a ∧ SqT K H a xs ∧ FzL K H ds xs := by
  simpa only [Fz] using h
theorem fz_intI {i : Int} {v : V} (h : Fz K H (.int i) v) : v = .int i := by simpa only [Fz] using h
theorem fz_strI {i : Str} {v : V} (h : Fz K H (.str i) v) : v = .str i := by simpa only [Fz] using h
theorem fz_blI {i : Bool} {v : V} (h : Fz K H (.bool i) v) : v = .bl i := by simpa only [Fz] using h
theorem fz_nonI {v : V} (h : Fz K H .none v) : v = .non := by simpa only [Fz] using h
theorem fzl_nil : FzL K H [] [] := by simp only [FzL]
theorem fzl_cons {d : PyData} {ds : List PyData} {v : V} {xs : List V} (h : Fz K H d v) (f : FzL K H ds xs) : FzL K H (d :: ds) (v :: xs) := by
  simp only [FzL]
  exact ⟨v, xs, rfl, h, f⟩
theorem fzl_nilI {xs : List V} (h : FzL K H [] xs) : xs = [] := by simpa only [FzL] using h
theorem fzl_consI {d : PyData} {ds : List PyData} {xs : List V} (h : FzL K H (d :: ds) xs) : ∃ v r, xs = v :: r ∧ Fz K H d v ∧ FzL K H ds r := by
  simpa only [FzL] using h
theorem fzl_len : ∀ {ds : List PyData} {xs : List V}, FzL K H ds xs → xs.length = ds.length
  | [], _, h => by
    rw [fzl_nilI h]
    rfl
  | d :: ds, _, h => by
    obtain ⟨v, r, rfl, _, h2⟩ := fzl_consI h
    rw [List.length_cons, List.length_cons, fzl_len h2]
theorem fzl_get : ∀ {ds : List PyData} {xs : List V} {i : Nat} {d : PyData}, FzL K H ds xs → ds[i]? = some d → ∃ v, xs[i]? = some v ∧ Fz K H d v
  | [], _, _, _, _, e => by simp at e
  | d :: ds, _, 0, _, h, e => by
    obtain ⟨v, r, rfl, h1, _⟩ := fzl_consI h
    cases (Option.some.inj e)
    exact ⟨v, rfl, h1⟩
  | d :: ds, _, i + 1, _, h, e => by
    obtain ⟨v, r, rfl, _, h2⟩ := fzl_consI h
    exact fzl_get (ds := ds) (i := i) h2 (by simpa using e)
theorem fzl_getV {ds : List PyData} {xs : List V} {i : Nat} {v : V} (h : FzL K H ds xs) (e : xs[i]? = some v) : ∃ d, ds[i]? = some d ∧ Fz K H d v := by
  have hl := fzl_len h
  have hi := (List.getElem?_eq_some_iff.mp e).1
  have hd : ds[i]? = some (ds[i]'(by omega)) := List.getElem?_eq_getElem _
  obtain ⟨v', e', f⟩ := fzl_get h hd
  rw [e] at e'
  cases e'
  exact ⟨_, hd, f⟩
theorem fzl_append : ∀ {ds es : List PyData} {xs ys : List V}, FzL K H ds xs → FzL K H es ys → FzL K H (ds ++ es) (xs ++ ys)
  | [], _, _, _, h, k => by
    rw [fzl_nilI h]
    exact k
  | d :: ds, _, _, _, h, k => by
    obtain ⟨v, r, rfl, h1, h2⟩ := fzl_consI h
    exact fzl_cons h1 (fzl_append h2 k)
theorem fzl_set : ∀ {ds : List PyData} {xs : List V} {d : PyData} {v : V} (i : Nat), FzL K H ds xs → Fz K H d v → FzL K H (ds.set i d) (xs.set i v)
  | [], _, _, _, _, h, _ => by
    rw [fzl_nilI h]
    exact fzl_nil
  | d :: ds, _, _, _, 0, h, k => by
    obtain ⟨v, r, rfl, h1, h2⟩ := fzl_consI h
    exact fzl_cons k h2
  | d :: ds, _, _, _, i + 1, h, k => by
    obtain ⟨v, r, rfl, h1, h2⟩ := fzl_consI h
    exact fzl_cons h1 (fzl_set i h2 k)
theorem fzl_take : ∀ {ds : List PyData} {xs : List V} (i : Nat), FzL K H ds xs → FzL K H (ds.take i) (xs.take i)
  | _, _, 0, _ => by simpa using fzl_nil
  | [], _, _ + 1, h => by
    rw [fzl_nilI h]
    exact fzl_nil
  | d :: ds, _, i + 1, h => by
    obtain ⟨v, r, rfl, h1, h2⟩ := fzl_consI h
    exact fzl_cons h1 (fzl_take i h2)
theorem fzl_drop : ∀ {ds : List PyData} {xs : List V} (i : Nat), FzL K H ds xs → FzL K H (ds.drop i) (xs.drop i)
  | _, _, 0, h => by simpa using h
  | [], _, _ + 1, h => by
    rw [fzl_nilI h]
    exact fzl_nil
  | d :: ds, _, i + 1, h => by
    obtain ⟨v, r, rfl, h1, h2⟩ := fzl_consI h
    exact fzl_drop i h2
theorem fzl_ints : ∀ {ns : List Int} {xs : List V}, FzL K H (ns.map PyData.int) xs ↔ xs = ns.map V.int
  | [], xs => by simp only [List.map_nil, FzL]
  | n :: ns, xs => by
    simp only [List.map_cons, FzL, Fz]
    constructor
    · rintro ⟨v, r, rfl, rfl, h⟩
      rw [fzl_ints.mp h]
    · rintro rfl
      exact ⟨_, _, rfl, rfl, fzl_ints.mpr rfl⟩
mutual
theorem fz_dp : ∀ (d : PyData) (v : V), Fz K H d v → Dp K H v d
  | .none, _, h => by rw [fz_nonI h]; exact .non
  | .bool b, _, h => by rw [fz_blI h]; exact .bl b
  | .int i, _, h => by rw [fz_intI h]; exact .int i
  | .str s, _, h => by rw [fz_strI h]; exact .str s
  | .tuple ds, v, h => by
    obtain ⟨a, xs, rfl, hs, hf⟩ := fz_tupI h
    exact .tup hs (fzl_dp ds xs hf)
  | .list _, _, h => by simp only [Fz] at h
  | .dict _, _, h => by simp only [Fz] at h
theorem fzl_dp : ∀ (ds : List PyData) (xs : List V), FzL K H ds xs → DpAll K H xs ds
  | [], _, h => by rw [fzl_nilI h]; exact .nil
  | d :: ds, _, h => by
    obtain ⟨v, r, rfl, h1, h2⟩ := fzl_consI h
    exact .cons (fz_dp d v h1) (fzl_dp ds r h2)
end
end
/-! ### plain data: no bools within -/
mutual
def plain : PyData → Bool
  | .none | .int _ => true
  | .str s => PyData.strOk s
  | .tuple ds => plainL ds
  | .bool _ | .list _ | .dict _ => false
def plainL : List PyData → Bool
  | [] => true
  | d :: ds => plain d && plainL ds
end
mutual
theorem eqv_iff : ∀ (d e : PyData), plain d = true → plain e = true → (PyData.eqv d e = true ↔ d = e)
  | .none, e, _, he => by cases e <;> simp_all [PyData.eqv, plain]
  | .int i, e, _, he => by cases e <;> simp_all [PyData.eqv, plain]
  | .str s, e, _, he => by cases e <;> simp_all [PyData.eqv, plain]
  | .tuple ds, e, hd, he => by
    cases e with
    | tuple es =>
      have h := eqv_iffL ds es (by simpa only [plain] using hd) (by simpa only [plain] using he)
      simp only [PyData.eqv, PyData.tuple.injEq]
      exact h
    | _ => simp_all [PyData.eqv, plain]
  | .bool _, _, hd, _ => by simp [plain] at hd
  | .list _, _, hd, _ => by simp [plain] at hd
  | .dict _, _, hd, _ => by simp [plain] at hd
theorem eqv_iffL : ∀ (ds es : List PyData), plainL ds = true → plainL es = true → (PyData.eqvAll ds es = true ↔ ds = es)
  | [], [], _, _ => by simp [PyData.eqvAll]
  | [], _ :: _, _, _ => by simp [PyData.eqvAll]
  | _ :: _, [], _, _ => by simp [PyData.eqvAll]
  | d :: ds, e :: es, hd, he => by
    simp only [plainL, Bool.and_eq_true] at hd he
    simp only [PyData.eqvAll, Bool.and_eq_true, List.cons.injEq, eqv_iff d e hd.1 he.1, eqv_iffL ds es hd.2 he.2]
end
theorem eqv_yes {d : PyData} (h : plain d = true) : PyData.eqv d d = true := (eqv_iff d d h h).mpr rfl
theorem eqv_no {d e : PyData} (h : plain d = true) (k : plain e = true) (n : d ≠ e) : PyData.eqv d e = false := by
  cases q : PyData.eqv d e with
  | false => rfl
  | true => exact absurd ((eqv_iff d e h k).mp q) n
mutual
theorem plain_lay : ∀ d : PyData, plain d = true → d.canLay0 = true
  | .none, _ => by simp only [PyData.canLay0]
  | .int _, _ => by simp only [PyData.canLay0]
  | .str _, h => by simpa only [PyData.canLay0, plain] using h
  | .tuple ds, h => by
    simp only [PyData.canLay0]
    exact plain_layL ds (by simpa only [plain] using h)
  | .bool _, h => by simp [plain] at h
  | .list _, h => by simp [plain] at h
  | .dict _, h => by simp [plain] at h
theorem plain_layL : ∀ ds : List PyData, plainL ds = true → PyData.canLayAll0 ds = true
  | [], _ => by simp only [PyData.canLayAll0]
  | d :: ds, h => by
    simp only [plainL, Bool.and_eq_true] at h
    simp only [PyData.canLayAll0, Bool.and_eq_true]
    exact ⟨plain_lay d h.1, plain_layL ds h.2⟩
end
/-- plain and not deep -/
def Plain (d : PyData) : Prop := plain d = true ∧ d.depth ≤ 60
theorem Plain.shaped {d : PyData} (h : Plain d) : SeqAt.shaped d = true := by
  unfold SeqAt.shaped
  rw [plain_lay d h.1, decide_eq_true (Nat.le_trans h.2 (by decide : (60 : Nat) ≤ 64))]
  rfl
theorem plainL_all : ∀ {ds : List PyData}, (∀ d ∈ ds, plain d = true) → plainL ds = true
  | [], _ => rfl
  | d :: ds, h => by
    simp only [plainL, Bool.and_eq_true]
    exact ⟨h d List.mem_cons_self, plainL_all fun e he => h e (List.mem_cons_of_mem _ he)⟩
theorem depthAll_le {n : Nat} : ∀ {ds : List PyData}, (∀ d ∈ ds, d.depth ≤ n) → PyData.depthAll ds ≤ n
  | [], _ => by simp only [PyData.depthAll]; omega
  | d :: ds, h => by
    simp only [PyData.depthAll]
    have h1 := h d List.mem_cons_self
    have h2 := depthAll_le (ds := ds) fun e he => h e (List.mem_cons_of_mem _ he)
    omega
theorem Plain.tup {ds : List PyData} {n : Nat} (h : ∀ d ∈ ds, plain d = true ∧ d.depth ≤ n) : plain (.tuple ds) = true ∧ (PyData.tuple ds).depth ≤ n + 1 := by
  refine ⟨?_, ?_⟩
  · simp only [plain]
    exact plainL_all fun d hd => (h d hd).1
  · simp only [PyData.depth]
    have := depthAll_le (ds := ds) fun d hd => (h d hd).2
    omega
theorem Plain.of {d : PyData} {n : Nat} (h : plain d = true ∧ d.depth ≤ n) (hn : n ≤ 60 := by decide) : Plain d := ⟨h.1, Nat.le_trans h.2 hn⟩
theorem plain_int (i : Int) : plain (.int i) = true ∧ (PyData.int i).depth ≤ 0 := ⟨by simp only [plain], by simp only [PyData.depth]; omega⟩
theorem plain_str (i : Str) (h : PyData.strOk i = true) : plain (.str i) = true ∧ (PyData.str i).depth ≤ 0 := ⟨by simpa only [plain] using h, by simp only [PyData.depth]; omega⟩
theorem plain_up {d : PyData} {n m : Nat} (h : plain d = true ∧ d.depth ≤ n) (hm : n ≤ m) : plain d = true ∧ d.depth ≤ m := ⟨h.1, Nat.le_trans h.2 hm⟩
/-! ### tuples of naturals, rows of them -/
/-- a tuple of naturals -/
def tN (ns : List Nat) : PyData := .tuple (ns.map fun n : Nat => .int (n : Int))
/-- a tuple of tuples of naturals -/
def tNN (rs : List (List Nat)) : PyData := .tuple (rs.map tN)
theorem tN_plain (ns : List Nat) : plain (tN ns) = true ∧ (tN ns).depth ≤ 1 := Plain.tup (n := 0) fun d hd => by
  obtain ⟨n, _, rfl⟩ := List.mem_map.mp hd
  exact plain_int _
theorem tNN_plain (rs : List (List Nat)) : plain (tNN rs) = true ∧ (tNN rs).depth ≤ 2 := Plain.tup (n := 1) fun d hd => by
  obtain ⟨n, _, rfl⟩ := List.mem_map.mp hd
  exact tN_plain _
theorem map_inj {α β : Type} {f : α → β} (hf : ∀ x y, f x = f y → x = y) : ∀ {a b : List α}, a.map f = b.map f → a = b
  | [], [], _ => rfl
  | [], _ :: _, h => by simp at h
  | _ :: _, [], h => by simp at h
  | x :: a, y :: b, h => by
    rw [List.map_cons, List.map_cons] at h
    injection h with h1 h2
    rw [hf x y h1, map_inj hf h2]
theorem tN_inj {a b : List Nat} (h : tN a = tN b) : a = b := by
  exact map_inj (fun x y e => Int.ofNat.inj (PyData.int.inj e)) (PyData.tuple.inj h)
theorem tNN_inj {a b : List (List Nat)} (h : tNN a = tNN b) : a = b :=
  map_inj (fun _ _ e => tN_inj e) (PyData.tuple.inj h)
section
variable {K : PySem.W.Frag} {H H' : Hp}
/-- the values of naturals -/
def vN (ns : List Nat) : List V := ns.map fun n : Nat => V.int (n : Int)
theorem fzl_nats : ∀ {ns : List Nat} {xs : List V}, FzL K H (ns.map fun n : Nat => .int (n : Int)) xs ↔ xs = vN ns
  | [], xs => by simp only [List.map_nil, FzL, vN]
  | n :: ns, xs => by
    simp only [List.map_cons, FzL, Fz, vN]
    constructor
    · rintro ⟨v, r, rfl, rfl, h⟩
      rw [fzl_nats.mp h]
      rfl
    · rintro rfl
      exact ⟨_, _, rfl, rfl, fzl_nats.mpr rfl⟩
theorem fz_tN {ns : List Nat} {v : V} : Fz K H (tN ns) v ↔ ∃ a, v = .ref a ∧ SqT K H a (vN ns) := by
  unfold tN
  constructor
  · intro h
    obtain ⟨a, xs, rfl, hs, hf⟩ := fz_tupI h
    rw [fzl_nats.mp hf] at hs
    exact ⟨a, rfl, hs⟩
  · rintro ⟨a, rfl, hs⟩
    exact fz_tup hs (fzl_nats.mpr rfl)
theorem vN_get {ns : List Nat} {i : Nat} : (vN ns)[i]? = ns[i]?.map fun n : Nat => V.int (n : Int) := by
  unfold vN
  rw [List.getElem?_map]
theorem vN_len (ns : List Nat) : (vN ns).length = ns.length := by
  unfold vN
  rw [List.length_map]
theorem vN_flat (ns : List Nat) : (vN ns).all flatV = true := by
  rw [List.all_eq_true]
  intro x hx
  obtain ⟨n, _, rfl⟩ := List.mem_map.mp hx
  rfl
end
end WT
/-! Toolkit 2: what evaluates to frozen data; statements; loops. -/
namespace WT
open PySem PySem.Spec PyProof.Rows L2 Evl
/-- an argument: frozen data, or a very value -/
inductive Ag where
  | d (x : PyData) | v (x : V)
def AgO (K : PySem.W.Frag) (H : Hp) : Ag → V → Prop
  | .d x, v => Fz K H x v
  | .v x, v => v = x
def AgL (K : PySem.W.Frag) (H : Hp) : List Ag → List V → Prop
  | [], xs => xs = []
  | a :: as, xs => ∃ v r, xs = v :: r ∧ AgO K H a v ∧ AgL K H as r
def Ed (K : PySem.W.Frag) (te : TE) (σ : L2.St) (H : Hp) (d : PyData) : Prop := ∀ H1, Ex H H1 → ∀ Q : VK, (∀ v H2, Ex H1 H2 → Fz K H2 d v → Q v H2) → te σ H1 Q
/-- a new list of frozen data -/
def El (K : PySem.W.Frag) (te : TE) (σ : L2.St) (H : Hp) (ds : List PyData) : Prop := ∀ H1, Ex H H1 → ∀ Q : VK, (∀ p xs H2, H1 p = none → Ex H1 H2 → H2 p = some (.lst xs) → FzL K H2 ds xs → Q (.ref p) H2) → te σ H1 Q
def Ea (K : PySem.W.Frag) (ta : TA) (σ : L2.St) (H : Hp) (as : List Ag) : Prop := ∀ H1, Ex H H1 → ∀ Q : List V → Hp → Prop, (∀ vs H2, Ex H1 H2 → AgL K H2 as vs → Q vs H2) → ta σ H1 Q
section
variable {K : PySem.W.Frag} {σ : L2.St} {H H' : Hp} {ta tb te : TE} {tr : TA} {t u : TT} {d e : PyData} {ds es : List PyData} {v x y : V}
theorem ago_ex (e : Ex H H') : ∀ {a : Ag} {v : V}, AgO K H a v → AgO K H' a v
  | .d _, _, h => fz_ex e h
  | .v _, _, h => h
theorem agl_ex (e : Ex H H') : ∀ {as : List Ag} {xs : List V}, AgL K H as xs → AgL K H' as xs
  | [], _, h => h
  | _ :: _, _, ⟨v, r, h, h1, h2⟩ => ⟨v, r, h, ago_ex e h1, agl_ex e h2⟩
theorem agl_fz : ∀ {ds : List PyData} {xs : List V}, AgL K H (ds.map Ag.d) xs → FzL K H ds xs
  | [], _, h => by
    rw [show _ = [] from h]
    exact fzl_nil
  | _ :: _, _, ⟨v, r, h, h1, h2⟩ => by
    rw [h]
    exact fzl_cons h1 (agl_fz h2)
theorem fz_agl : ∀ {ds : List PyData} {xs : List V}, FzL K H ds xs → AgL K H (ds.map Ag.d) xs
  | [], _, h => fzl_nilI h
  | _ :: _, _, h => by
    obtain ⟨v, r, h, h1, h2⟩ := fzl_consI h
    exact ⟨v, r, h, h1, fz_agl h2⟩
theorem agl_app : ∀ {as bs : List Ag} {xs ys : List V}, AgL K H as xs → AgL K H bs ys → AgL K H (as ++ bs) (xs ++ ys)
  | [], _, _, _, h, k => by
    rw [show _ = [] from h]
    exact k
  | _ :: _, _, _, _, ⟨v, r, h, h1, h2⟩, k => by
    rw [h]
    exact ⟨v, _, rfl, h1, agl_app h2 k⟩
theorem agl_len : ∀ {as : List Ag} {xs : List V}, AgL K H as xs → xs.length = as.length
  | [], _, h => by
    rw [show _ = [] from h]
    rfl
  | _ :: _, _, ⟨v, r, h, h1, h2⟩ => by
    rw [h, List.length_cons, List.length_cons, agl_len h2]
theorem Ed.mono (e : Ex H H') (h : Ed K te σ H d) : Ed K te σ H' d := fun H1 a Q q => h H1 (e.trans a) Q q
theorem El.mono (e : Ex H H') (h : El K te σ H ds) : El K te σ H' ds := fun H1 a Q q => h H1 (e.trans a) Q q
theorem ed_ev (h : Ev te σ H v) (f : Fz K H d v) : Ed K te σ H d := fun H1 e Q q => h H1 e Q fun H2 e2 => q v H2 e2 (fz_ex (e.trans e2) f)
theorem ed_var {i : Nat} (h : σ[i]? = some (some v)) (f : Fz K H d v) : Ed K (tVar i) σ H d := ed_ev (ev_var h) f
theorem ev_ed (h : Ed K te σ H d) (f : ∀ H2 v, Fz K H2 d v → v = x) : Ev te σ H x := fun H1 e Q q => h H1 e Q fun v H2 e2 hf => by
  rw [f H2 v hf]
  exact q H2 e2
theorem ev_int {i : Int} (h : Ed K te σ H (.int i)) : Ev te σ H (.int i) := ev_ed h fun _ _ => fz_intI
theorem ev_bool {i : Bool} (h : Ed K te σ H (.bool i)) : Ev te σ H (.bl i) := ev_ed h fun _ _ => fz_blI
theorem ev_strD {i : Str} (h : Ed K te σ H (.str i)) : Ev te σ H (.str i) := ev_ed h fun _ _ => fz_strI
theorem ed_is (h : Ed K te σ H d) (q : d = e) : Ed K te σ H e := q ▸ h
theorem ea_nil : Ea K tNil σ H [] := fun H1 _ _ q => q _ H1 (Ex.refl H1) rfl
theorem ea_d {as : List Ag} (h : Ed K te σ H d) (hr : Ea K tr σ H as) : Ea K (tCons te tr) σ H (.d d :: as) := fun H1 e _ q =>
  h H1 e _ fun v H2 e2 f => hr H2 (e.trans e2) _ fun vs H3 e3 k => q (v :: vs) H3 (e2.trans e3) ⟨v, vs, rfl, fz_ex e3 f, k⟩
theorem ea_v {as : List Ag} (h : Ev te σ H v) (hr : Ea K tr σ H as) : Ea K (tCons te tr) σ H (.v v :: as) := fun H1 e _ q =>
  h H1 e _ fun H2 e2 => hr H2 (e.trans e2) _ fun vs H3 e3 k => q (v :: vs) H3 (e2.trans e3) ⟨v, vs, rfl, rfl, k⟩
/-- *e, e a tuple -/
theorem ea_star {as : List Ag} (h : Ed K te σ H (.tuple ds)) (hr : Ea K tr σ H as) : Ea K (StX.tStar K te tr) σ H (ds.map Ag.d ++ as) := fun H1 e _ q =>
  h H1 e _ fun v H2 e2 f => by
    obtain ⟨a, xs, rfl, hs, hf⟩ := fz_tupI f
    exact ⟨a, xs, rfl, .inl hs, hr H2 (e.trans e2) _ fun vs H3 e3 k => q (xs ++ vs) H3 (e2.trans e3) (agl_app (fz_agl (fzl_ex e3 hf)) k)⟩
/-- *e, e a list that stands -/
theorem ea_starL {as : List Ag} {p : Addr} {xs : List V} (h : Ev te σ H (.ref p)) (hp : SqL K H p xs) (hf : FzL K H ds xs) (hr : Ea K tr σ H as) : Ea K (StX.tStar K te tr) σ H (ds.map Ag.d ++ as) := fun H1 e _ q =>
  h H1 e _ fun H2 e2 => ⟨p, xs, rfl, .inr (ex_l (e.trans e2) hp), hr H2 (e.trans e2) _ fun vs H3 e3 k => q (xs ++ vs) H3 (e2.trans e3) (agl_app (fz_agl (fzl_ex ((e.trans e2).trans e3) hf)) k)⟩
theorem ed_tup (h : Ea K tr σ H (ds.map Ag.d)) (hl : ds.length ≤ 100000) : Ed K (tTup tr) σ H (.tuple ds) := fun H1 e _ q =>
  h H1 e _ fun vs H2 e2 k => by
    have f := agl_fz k
    exact ⟨sz_of (by rw [fzl_len f]; exact hl), fun p hp => q (.ref p) _ (e2.trans (Ex.new hp)) (fz_tup (st_of upd_same) (fzl_ex (Ex.new hp) f))⟩
theorem el_lst (h : Ea K tr σ H (ds.map Ag.d)) (hl : ds.length ≤ 100000) : El K (tLst tr) σ H ds := fun H1 e _ q =>
  h H1 e _ fun vs H2 e2 k => by
    have f := agl_fz k
    exact ⟨sz_of (by rw [fzl_len f]; exact hl), fun p hp => q p vs _ (fresh_back e2 hp) (e2.trans (Ex.new hp)) upd_same (fzl_ex (Ex.new hp) f)⟩
theorem atI_of {α : Type} {xs : List α} {i : Nat} {x : α} (h : xs[i]? = some x) : atI xs (i : Int) = some x := atI_nat h
/-- t[i] -/
theorem ed_ixT {i : Nat} (h : Ed K ta σ H (.tuple ds)) (hi : Ev tb σ H (.int (i : Int))) (hd : ds[i]? = some d) : Ed K (tOp (rIxT K) ta tb) σ H d := fun H1 e Q q =>
  h H1 e _ fun v H2 e2 f => by
    obtain ⟨a, xs, rfl, hs, hf⟩ := fz_tupI f
    obtain ⟨w, hw, fw⟩ := fzl_get hf hd
    exact hi H2 (e.trans e2) _ fun H3 e3 => ⟨a, xs, i, w, rfl, rfl, ex_t e3 hs, atI_of hw, q w H3 (e2.trans e3) (fz_ex e3 fw)⟩
/-- xs[i] of a list that stands -/
theorem ed_ixL {i : Nat} {p : Addr} {xs : List V} (h : Ev ta σ H (.ref p)) (hp : SqL K H p xs) (hf : FzL K H ds xs) (hi : Ev tb σ H (.int (i : Int))) (hd : ds[i]? = some d) : Ed K (tOp (rIxL K) ta tb) σ H d := by
  obtain ⟨w, hw, fw⟩ := fzl_get hf hd
  exact ed_ev (ev_op h hi (rv_ixL hp (atI_of hw))) fw
/-- len(t) -/
theorem ev_lenT (h : Ed K ta σ H (.tuple ds)) : Ev (tCB (rLenS K) (tCons ta tNil)) σ H (.int (ds.length : Int)) := fun H1 e Q q =>
  h H1 e _ fun v H2 e2 f => by
    obtain ⟨a, xs, rfl, hs, hf⟩ := fz_tupI f
    refine ⟨a, xs, rfl, .inr hs, ?_⟩
    rw [fzl_len hf]
    exact q H2 e2
/-- tuple(list made on the way) -/
def rTupOf (K : PySem.W.Frag) : List V → Hp → VK → Prop := fun xs H Q => ∃ p ys, xs = [.ref p] ∧ ((SqL K H p ys ∧ ∀ l, H l = none → Q (.ref l) (upd H l (.tup ys))) ∨ (SqT K H p ys ∧ Q (.ref p) H))
theorem ed_tupOf (h : El K ta σ H ds) : Ed K (tCB (rTupOf K) (tCons ta tNil)) σ H (.tuple ds) := fun H1 e Q q =>
  h H1 e _ fun p xs H2 _ e2 h2 f => ⟨p, xs, rfl, .inl ⟨sq_of h2, fun l hl => q (.ref l) _ (e2.trans (Ex.new hl)) (fz_tup (st_of upd_same) (fzl_ex (Ex.new hl) f))⟩⟩
/-- tuple(xs), xs a list that stands -/
theorem ed_tupOfL {p : Addr} {xs : List V} (h : Ev ta σ H (.ref p)) (hp : SqL K H p xs) (hf : FzL K H ds xs) : Ed K (tCB (rTupOf K) (tCons ta tNil)) σ H (.tuple ds) := fun H1 e Q q =>
  h H1 e _ fun H2 e2 => ⟨p, xs, rfl, .inl ⟨ex_l (e.trans e2) hp, fun l hl => q (.ref l) _ (e2.trans (Ex.new hl)) (fz_tup (st_of upd_same) (fzl_ex ((e.trans e2).trans (Ex.new hl)) hf))⟩⟩
theorem el_listOfT (h : Ed K ta σ H (.tuple ds)) : El K (tCB (rListS K) (tCons ta tNil)) σ H ds := fun H1 e Q q =>
  h H1 e _ fun v H2 e2 f => by
    obtain ⟨a, xs, rfl, hs, hf⟩ := fz_tupI f
    exact ⟨a, xs, rfl, .inr hs, fun l hl => q l xs _ (fresh_back e2 hl) (e2.trans (Ex.new hl)) upd_same (fzl_ex (Ex.new hl) hf)⟩
/-- all([..]) -/
theorem ev_all {bs : List Bool} (h : El K ta σ H (bs.map PyData.bool)) : Ev (tCB (rAll K) (tCons ta tNil)) σ H (.bl (bs.all id)) := fun H1 e Q q =>
  h H1 e _ fun p xs H2 _ e2 h2 f => by
    have ex : ∀ {bs : List Bool} {xs : List V}, FzL K H2 (bs.map PyData.bool) xs → xs = bs.map V.bl := by
      intro bs
      induction bs with
      | nil => intro xs f; exact fzl_nilI f
      | cons b bs ih =>
        intro xs f
        obtain ⟨v, r, rfl, h1, h2⟩ := fzl_consI f
        rw [fz_blI h1, ih h2]
        rfl
    exact ⟨p, bs, rfl, by rw [← ex f]; exact sq_of h2, q H2 e2⟩
/-- d == e, d != e -/
theorem ev_eqD (h : Ed K ta σ H d) (k : Ed K tb σ H e) (pd : Plain d) (pe : Plain e) : Ev (tOp (rEqD K) ta tb) σ H (.bl (PyData.eqv d e)) := fun H1 e1 Q q =>
  h H1 e1 _ fun v H2 e2 f => k H2 (e1.trans e2) _ fun w H3 e3 g => ⟨d, e, fz_dp _ _ (fz_ex e3 f), fz_dp _ _ g, pd.shaped, pe.shaped, q H3 (e2.trans e3)⟩
theorem ev_neD (h : Ed K ta σ H d) (k : Ed K tb σ H e) (pd : Plain d) (pe : Plain e) : Ev (tOp (rNeD K) ta tb) σ H (.bl (!PyData.eqv d e)) := fun H1 e1 Q q =>
  h H1 e1 _ fun v H2 e2 f => k H2 (e1.trans e2) _ fun w H3 e3 g => ⟨d, e, fz_dp _ _ (fz_ex e3 f), fz_dp _ _ g, pd.shaped, pe.shaped, q H3 (e2.trans e3)⟩
/-- a call -/
def Pr (K : PySem.W.Frag) (sp : Sp) (as : List Ag) (H : Hp) (d : PyData) : Prop := ∀ H1, Ex H H1 → ∀ vs, AgL K H1 as vs → ∀ Q : VK, (∀ v H2, Ex H1 H2 → Fz K H2 d v → Q v H2) → ∀ E : XK, sp vs H1 Q E
theorem ed_call {sp : Sp} {E : XK} {as : List Ag} (h : Ea K tr σ H as) (hs : Pr K sp as H d) : Ed K (tCall sp [] E tr) σ H d := fun H1 e Q q =>
  h H1 e _ fun vs H2 e2 k => by
    rw [List.append_nil]
    exact hs H2 (e.trans e2) vs k Q (fun v H3 e3 f => q v H3 (e2.trans e3) f) E
/-! ### statements -/
variable {Dn : Ends} {tu tw tz : TS} {g : TG}
theorem s_asgD {i : Nat} (h : Ed K te σ H d) (k : ∀ v H1, Ex H H1 → Fz K H1 d v → Dn.nx (σ.set i (some v)) H1) : tAsg te (gName i) Dn σ H := h H (Ex.refl H) _ fun v H1 e f => k v H1 e f
theorem q_asgD {i : Nat} (h : Ed K te σ H d) (k : ∀ v H1, Ex H H1 → Fz K H1 d v → tz Dn (σ.set i (some v)) H1) : tSeq (tAsg te (gName i)) tz Dn σ H := s_asgD (Dn := { Dn with nx := tz Dn }) h k
theorem s_asgE {i : Nat} (h : El K te σ H ds) (k : ∀ p xs H1, H p = none → Ex H H1 → H1 p = some (.lst xs) → FzL K H1 ds xs → Dn.nx (σ.set i (some (.ref p))) H1) : tAsg te (gName i) Dn σ H := h H (Ex.refl H) _ fun p xs H1 hp e h1 f => k p xs H1 hp e h1 f
theorem q_asgE {i : Nat} (h : El K te σ H ds) (k : ∀ p xs H1, H p = none → Ex H H1 → H1 p = some (.lst xs) → FzL K H1 ds xs → tz Dn (σ.set i (some (.ref p))) H1) : tSeq (tAsg te (gName i)) tz Dn σ H := s_asgE (Dn := { Dn with nx := tz Dn }) h k
theorem s_retD (h : Ed K te σ H d) (k : ∀ v H1, Ex H H1 → Fz K H1 d v → Dn.rt v H1) : tRet te Dn σ H := h H (Ex.refl H) _ fun v H1 e f => k v H1 e f
theorem s_retE (h : El K te σ H ds) (k : ∀ p xs H1, H p = none → Ex H H1 → H1 p = some (.lst xs) → FzL K H1 ds xs → Dn.rt (.ref p) H1) : tRet te Dn σ H := h H (Ex.refl H) _ k
theorem s_dropD (h : Ed K te σ H d) (k : ∀ H1, Ex H H1 → Dn.nx σ H1) : tDrop te Dn σ H := h H (Ex.refl H) _ fun _ H1 e _ => k H1 e
theorem q_dropD (h : Ed K te σ H d) (k : ∀ H1, Ex H H1 → tz Dn σ H1) : tSeq (tDrop te) tz Dn σ H := s_dropD (Dn := { Dn with nx := tz Dn }) h k
/-- xs.append(e), e frozen -/
theorem s_appD {l : Addr} {xs : List V} (hl : H l = some (.lst xs)) (ha : Ev ta σ H (.ref l)) (h : Ed K te σ H d) (hz : xs.length < 100000) (k : ∀ v H1, Ex H H1 → Fz K H1 d v → Dn.nx σ (upd H1 l (.lst (xs ++ [v])))) :
    tDrop (tBM K "list" rAppend ta (tCons te tNil)) Dn σ H := ha H (Ex.refl H) _ fun H1 e1 =>
  ⟨Or.inl ⟨rfl, xs, sq_of (e1 l _ hl)⟩, h H1 e1 _ fun v H2 e2 f => ⟨l, xs, v, rfl, rfl, e2 l _ (e1 l _ hl), sz_lt hz, k v H2 (e1.trans e2) f⟩⟩
theorem q_appD {l : Addr} {xs : List V} (hl : H l = some (.lst xs)) (ha : Ev ta σ H (.ref l)) (h : Ed K te σ H d) (hz : xs.length < 100000) (k : ∀ v H1, Ex H H1 → Fz K H1 d v → tz Dn σ (upd H1 l (.lst (xs ++ [v])))) :
    tSeq (tDrop (tBM K "list" rAppend ta (tCons te tNil))) tz Dn σ H := s_appD (Dn := { Dn with nx := tz Dn }) hl ha h hz k
/-- xs.extend([..]) -/
theorem s_extE {l : Addr} {xs : List V} (hl : H l = some (.lst xs)) (ha : Ev ta σ H (.ref l)) (h : El K te σ H ds) (hz : xs.length + ds.length ≤ 100000) (k : ∀ zs H1, Ex H H1 → FzL K H1 ds zs → Dn.nx σ (upd H1 l (.lst (xs ++ zs)))) :
    tDrop (tBM K "list" rExtend ta (tCons te tNil)) Dn σ H := ha H (Ex.refl H) _ fun H1 e1 =>
  ⟨Or.inl ⟨rfl, xs, sq_of (e1 l _ hl)⟩, h H1 e1 _ fun b zs H2 _ e2 hb f => ⟨l, b, xs, zs, rfl, rfl, e2 l _ (e1 l _ hl), hb, sz_of (by rw [fzl_len f]; exact hz), k zs H2 (e1.trans e2) f⟩⟩
theorem q_extE {l : Addr} {xs : List V} (hl : H l = some (.lst xs)) (ha : Ev ta σ H (.ref l)) (h : El K te σ H ds) (hz : xs.length + ds.length ≤ 100000) (k : ∀ zs H1, Ex H H1 → FzL K H1 ds zs → tz Dn σ (upd H1 l (.lst (xs ++ zs)))) :
    tSeq (tDrop (tBM K "list" rExtend ta (tCons te tNil))) tz Dn σ H := s_extE (Dn := { Dn with nx := tz Dn }) hl ha h hz k
/-- a, b = e1, e2 -/
theorem s_par {i j : Nat} {a b : Ag} (h : Ea K tr σ H [a, b]) (k : ∀ v w H1, Ex H H1 → AgO K H1 a v → AgO K H1 b w → Dn.nx ((σ.set i (some v)).set j (some w)) H1) : tPar i j tr Dn σ H := h H (Ex.refl H) _ fun vs H1 e1 q => by
  obtain ⟨v, r, rfl, hv, w, r2, rfl, hw, e2⟩ := q
  rw [show r2 = [] from e2]
  exact ⟨v, w, rfl, k v w H1 e1 hv hw⟩
theorem q_par {i j : Nat} {a b : Ag} (h : Ea K tr σ H [a, b]) (k : ∀ v w H1, Ex H H1 → AgO K H1 a v → AgO K H1 b w → tz Dn ((σ.set i (some v)).set j (some w)) H1) : tSeq (tPar i j tr) tz Dn σ H := s_par (Dn := { Dn with nx := tz Dn }) h k
/-! ### loops -/
/-- for x in t, t a tuple -/
theorem s_forTd {tl : TE} (h : Ed K tl σ H (.tuple ds)) (k : ∀ H1, Ex H H1 → ∃ Pv : Nat → L2.St → Hp → Prop, Pv 0 σ H1 ∧ (∀ i σ' H', Pv i σ' H' → TEx H1 H') ∧
    (∀ i x d σ' H', ds[i]? = some d → Fz K H' d x → Pv i σ' H' → g x σ' H' fun σ2 H2 => tu { Dn with nx := Pv (i + 1), ct := Pv (i + 1), bk := Dn.nx } σ2 H2) ∧ ∀ σ' H', Pv ds.length σ' H' → Dn.nx σ' H') : tFor (iTup K tl) g tu Dn σ H :=
  h H (Ex.refl H) _ fun v H1 e f => by
    obtain ⟨a, xs, rfl, hs, hf⟩ := fz_tupI f
    obtain ⟨Pv, h0, hT, hb, hd⟩ := k H1 e
    refine ⟨a, rfl, ⟨xs, hs⟩, for_tup Pv h0 (fun i σ' H' _ p => tex_t (hT i σ' H' p) hs) (fun i x σ' H' hx p => ?_) fun σ' H' p => hd σ' H' (by rw [fzl_len hf] at p; exact p)⟩
    obtain ⟨d, hd', fd⟩ := fzl_getV hf hx
    exact hb i x d σ' H' hd' (Fz.mono (hT i σ' H' p) _ _ fd) p
theorem q_forTd {tl : TE} (h : Ed K tl σ H (.tuple ds)) (k : ∀ H1, Ex H H1 → ∃ Pv : Nat → L2.St → Hp → Prop, Pv 0 σ H1 ∧ (∀ i σ' H', Pv i σ' H' → TEx H1 H') ∧
    (∀ i x d σ' H', ds[i]? = some d → Fz K H' d x → Pv i σ' H' → g x σ' H' fun σ2 H2 => tu { Dn with nx := Pv (i + 1), ct := Pv (i + 1), bk := tz Dn } σ2 H2) ∧ ∀ σ' H', Pv ds.length σ' H' → tz Dn σ' H') : tSeq (tFor (iTup K tl) g tu) tz Dn σ H :=
  s_forTd (Dn := { Dn with nx := tz Dn }) h k
/-! ### comprehensions: out i is what the first i turns have given -/
def CwD (K : PySem.W.Frag) (H : Hp) (out : Nat → List PyData) (Dl : Addr) (i : Nat) (H' : Hp) : Prop := H Dl = none ∧ Ex H H' ∧ ∃ acc, H' Dl = some (.lst acc) ∧ FzL K H' (out i) acc
/-- one turn's test and element -/
def Turn1 (K : PySem.W.Frag) (tt : TT) (te : TE) (σ2 : L2.St) (H : Hp) (out : Nat → List PyData) (i : Nat) : Prop :=
  ∃ b, EvT tt σ2 H b ∧ (b = true → ∃ d, Ed K te σ2 H d ∧ out (i + 1) = out i ++ [d]) ∧ (b = false → out (i + 1) = out i)
theorem cwd_turn {H H' : Hp} {out : Nat → List PyData} {Dl : Addr} {i : Nat} {σ2 : L2.St} {tt : TT} (p : CwD K H out Dl i H') (hi : (out i).length < 100000) (h : ∀ H3, Ex H H3 → Ex H' H3 → Turn1 K tt te σ2 H3 out i) :
    ∀ H4, Ex H' H4 → tt σ2 H4 fun b H3 => if b = true then te σ2 H3 fun y H4 => ∃ acc, H4 Dl = some (.lst acc) ∧ acc.length < sizeLine ∧ CwD K H out Dl (i + 1) (upd H4 Dl (.lst (acc ++ [y]))) else CwD K H out Dl (i + 1) H3 := by
  intro Hs es
  obtain ⟨p1, p2, acc, p3, p4⟩ := p
  obtain ⟨b, hb, h1, h2⟩ := h Hs (p2.trans es) es
  refine hb Hs (Ex.refl Hs) _ fun H3 e3 => ?_
  cases b with
  | true =>
    obtain ⟨d, hd, eo⟩ := h1 rfl
    show te σ2 H3 fun y H4 => ∃ acc, H4 Dl = some (.lst acc) ∧ acc.length < sizeLine ∧ CwD K H out Dl (i + 1) (upd H4 Dl (.lst (acc ++ [y])))
    refine hd H3 e3 _ fun v H4 e4 f => ?_
    have h4 : H4 Dl = some (.lst acc) := e4 _ _ (e3 _ _ (es _ _ p3))
    refine ⟨acc, h4, sz_lt (by rw [fzl_len p4]; exact hi), p1, Ex.mut (((p2.trans es).trans e3).trans e4) p1, acc ++ [v], upd_same, ?_⟩
    rw [eo]
    have tx : TEx H4 (upd H4 Dl (.lst (acc ++ [v]))) := tex_lst h4
    exact fzl_append (FzL.mono tx _ _ (fzl_ex ((es.trans e3).trans e4) p4)) (fzl_cons (Fz.mono tx _ _ f) fzl_nil)
  | false =>
    show CwD K H out Dl (i + 1) H3
    refine ⟨p1, (p2.trans es).trans e3, acc, e3 _ _ (es _ _ p3), ?_⟩
    rw [h2 rfl]
    exact fzl_ex (es.trans e3) p4
/-- over a tuple, the target a name -/
theorem el_lcTd {tl : TE} {j : Nat} {vs : List Nat} {tt : TT} (out : Nat → List PyData) (h : Ed K tl σ H (.tuple ds)) (h0 : out 0 = []) (hz : ∀ i, i < ds.length → (out i).length < 100000) (hw : ∀ x, wipe ((wipe σ vs).set j (some x)) vs = wipe σ vs)
    (hs : ∀ (i : Nat) (x : V) d H1, Ex H H1 → ds[i]? = some d → Fz K H1 d x → Turn1 K tt te ((wipe σ vs).set j (some x)) H1 out i) :
    El K (tLc (iTup K tl) (gName j) tt te vs) σ H (out ds.length) := fun H0 e Q q => h H0 e _ fun v H1 e1 f => by
  obtain ⟨a, xs, rfl, hx, hf⟩ := fz_tupI f
  refine ⟨a, rfl, ⟨xs, hx⟩, fun Dl hD => lc_tup (xs := xs) (CwD K H1 out Dl) ⟨hD, Ex.new hD, [], upd_same, by rw [h0]; exact fzl_nil⟩ (fun i H' _ p => ex_t p.2.1 hx) (fun i x H' hi p => ?_) (fun H' p => ?_)⟩
  · obtain ⟨d, hd, fd⟩ := fzl_getV hf hi
    exact ⟨hw x, cwd_turn p (hz i (by have := (List.getElem?_eq_some_iff.mp hd).1; omega)) (fun H3 e3 _ => hs i x d H3 ((e.trans e1).trans e3) hd (fz_ex e3 fd)) H' (Ex.refl _)⟩
  · obtain ⟨p1, p2, acc, p3, p4⟩ := p
    rw [fzl_len hf] at p4
    exact q Dl acc H' (fresh_back e1 p1) (e1.trans p2) p3 p4
/-- over range(n) -/
theorem el_lcRd {ta : TA} {j : Nat} {vs : List Nat} {n : Nat} {tt : TT} (out : Nat → List PyData) (h : EvA ta σ H [.int (n : Int)]) (hn : n ≤ 40000) (h0 : out 0 = []) (hz : ∀ i, i < n → (out i).length < 100000) (hw : ∀ x, wipe ((wipe σ vs).set j (some x)) vs = wipe σ vs)
    (hs : ∀ (i : Nat) H1, Ex H H1 → i < n → Turn1 K tt te ((wipe σ vs).set j (some (.int (i : Int)))) H1 out i) :
    El K (tLc (iRng1 ta) (gName j) tt te vs) σ H (out n) := fun H0 e Q q => h H0 e _ fun H1 e1 => ⟨n, rfl, by omega, by omega, fun Dl hD =>
  lc_range (lo := 0) (n := n) (CwD K H1 out Dl) ⟨hD, Ex.new hD, [], upd_same, by rw [h0]; exact fzl_nil⟩ (fun i H' hi p => by
    have e0 : (0 : Int) + (i : Int) = (i : Int) := Int.zero_add _
    show wipe ((wipe σ vs).set j (some (.int ((0 : Int) + (i : Int))))) vs = wipe σ vs ∧ tt ((wipe σ vs).set j (some (.int ((0 : Int) + (i : Int))))) H' fun b H3 => if b = true then te ((wipe σ vs).set j (some (.int ((0 : Int) + (i : Int))))) H3 fun y H4 => ∃ acc, H4 Dl = some (.lst acc) ∧ acc.length < sizeLine ∧ CwD K H1 out Dl (i + 1) (upd H4 Dl (.lst (acc ++ [y]))) else CwD K H1 out Dl (i + 1) H3
    rw [e0]
    exact ⟨hw _, cwd_turn p (hz i hi) (fun H3 e3 _ => hs i H3 ((e.trans e1).trans e3) hi) H' (Ex.refl _)⟩) (fun H' p => by
    obtain ⟨p1, p2, acc, p3, p4⟩ := p
    exact q Dl acc H' (fresh_back e1 p1) (e1.trans p2) p3 p4)⟩
/-- over a list of frozen data that stands -/
theorem el_lcLd {tl : TE} {j : Nat} {vs : List Nat} {tt : TT} {a : Addr} {xs : List V} (out : Nat → List PyData) (h : Ev tl σ H (.ref a)) (hx : SqL K H a xs) (hf : FzL K H ds xs) (h0 : out 0 = []) (hz : ∀ i, i < ds.length → (out i).length < 100000) (hw : ∀ x, wipe ((wipe σ vs).set j (some x)) vs = wipe σ vs)
    (hs : ∀ (i : Nat) (x : V) d H1, Ex H H1 → ds[i]? = some d → Fz K H1 d x → Turn1 K tt te ((wipe σ vs).set j (some x)) H1 out i) :
    El K (tLc (iList K tl) (gName j) tt te vs) σ H (out ds.length) := fun H0 e Q q => h H0 e _ fun H1 e1 => by
  refine ⟨a, rfl, ⟨xs, ex_l (e.trans e1) hx⟩, fun Dl hD => lc_list (xs := xs) (CwD K H1 out Dl) ⟨hD, Ex.new hD, [], upd_same, by rw [h0]; exact fzl_nil⟩ (fun i H' _ p => ex_l ((e.trans e1).trans p.2.1) hx) (fun i x H' hi p => ?_) (fun H' p => ?_)⟩
  · obtain ⟨d, hd, fd⟩ := fzl_getV hf hi
    exact ⟨hw x, cwd_turn p (hz i (by have := (List.getElem?_eq_some_iff.mp hd).1; omega)) (fun H3 e3 _ => hs i x d H3 ((e.trans e1).trans e3) hd (fz_ex ((e.trans e1).trans e3) fd)) H' (Ex.refl _)⟩
  · obtain ⟨p1, p2, acc, p3, p4⟩ := p
    rw [fzl_len hf] at p4
    exact q Dl acc H' (fresh_back e1 p1) (e1.trans p2) p3 p4
theorem turn_all {tt : TT} {σ2 : L2.St} {out : Nat → List PyData} {i : Nat} (ht : EvT tt σ2 H true) (h : Ed K te σ2 H d) (ho : out (i + 1) = out i ++ [d]) : Turn1 K tt te σ2 H out i := ⟨true, ht, fun _ => ⟨d, h, ho⟩, fun z => nomatch z⟩
theorem et_yes : EvT tYes σ H true := fun H1 _ _ q => q H1 (Ex.refl H1)
end
end WT
/-! Toolkit 3: rules that the layer lacks: ** of great numbers, min of data, repr of data, enumerate(tuple), len(set(tuple of ints)). -/
namespace WT
open PySem PySem.Spec PyProof.Rows L2 Evl
section
variable {X : Cx}
/-- ** of great numbers -/
def CPowW (i j : Int) : Prop := 0 ≤ j ∧ (Builtin.Int.intBits i : Int) * j ≤ 2 ^ 27
theorem op_powW : OpR X (binaryOp .Pow) (rI CPowW fun i j => .int (i ^ j.toNat)) := opI fun _ _ _ _ _ _ _ hc q => pow_int hc.1 hc.2 q
theorem vals_getU : ∀ {xs : List V} {us : List Value} {i : Nat} {u : Value}, Vals xs us → us[i]? = some u → ∃ x, xs[i]? = some x ∧ RelV x u
  | _, _, _, _, .nil, e => by simp at e
  | _, _, 0, _, .cons r _, e => by
    cases (Option.some.inj e)
    exact ⟨_, rfl, r⟩
  | _, _, i + 1, u, .cons _ t, e => vals_getU (i := i) (u := u) t (by simpa using e)
/-- min(list of data) -/
def rMinD (K : PySem.W.Frag) : List V → Hp → VK → Prop := fun vs H Q => ∃ (a : Addr) (xs : List V) (d : PyData) (ds : List PyData), vs = [.ref a] ∧ SqL K H a xs ∧ FzL K H (d :: ds) xs ∧ PySem.W.AlikeAll (d :: ds) ∧
  PyData.depthAll (d :: ds) ≤ 50 ∧ ∀ v, Fz K H (PySem.W.minD d ds) v → Q v H
theorem cr_minD (hc : X.calm = true) (hu : X.A.units + 64 < cLine) : CallR X (.builtin "min") (rMinD X.K) := by
  intro pins s σ H vs us Q I r h
  obtain ⟨a, xs, d, ds, rfl, hq, hf, hal, hdp, q⟩ := h
  obtain ⟨u, rfl, ru⟩ := vals1 r
  cases (show u = Value.ref a from ru)
  obtain ⟨its, rv, pl, hz⟩ := I.list hq
  obtain ⟨as, hr⟩ := Dp.readsAll I (d :: ds) xs its (fzl_dp _ _ hf) rv
  refine PySem.W.min_list_data (I.ok.hd hc) pl.isList (by simpa using hr) hal (by omega) fun i v h' tk bs hi hm hk => ?_
  have hi' : its[i]? = some v := by simpa using hi
  obtain ⟨x, hx, rx⟩ := vals_getU rv hi'
  obtain ⟨e, he, fe⟩ := fzl_getV hf hx
  obtain ⟨cs, hre⟩ := Dp.reads I e x v (fz_dp _ _ fe) rx
  have ee : PySem.W.minD d ds = e := (reads_det (fun b o z _ => hk b o z) hre hm).1
  exact ⟨x, H, I.kept (t' := tk) hk, rx, q x (by rw [ee]; exact fe)⟩
/-- repr(data); nothing is being written out around -/
def rReprD (K : PySem.W.Frag) : List V → Hp → VK → Prop := fun vs H Q => ∃ (x : V) (d : PyData), vs = [x] ∧ Fz K H d x ∧ d.showable = true ∧ d.depth ≤ 50 ∧ d.shown.length ≤ sizeLine ∧ Q (.str d.shown) H
theorem fz_noDict {K : PySem.W.Frag} {H : Hp} : ∀ (d : PyData) (v : V), Fz K H d v → d.hasDict = false
  | .none, _, _ => by simp only [PyData.hasDict]
  | .bool _, _, _ => by simp only [PyData.hasDict]
  | .int _, _, _ => by simp only [PyData.hasDict]
  | .str _, _, _ => by simp only [PyData.hasDict]
  | .tuple ds, v, h => by
    obtain ⟨a, xs, _, _, hf⟩ := fz_tupI h
    simp only [PyData.hasDict]
    exact go ds xs hf
  | .list _, _, h => by simp only [Fz] at h
  | .dict _, _, h => by simp only [Fz] at h
where go : ∀ (ds : List PyData) (xs : List V), FzL K H ds xs → PyData.hasDictAll ds = false
  | [], _, _ => by simp only [PyData.hasDictAll]
  | d :: ds, _, h => by
    obtain ⟨v, r, _, h1, h2⟩ := fzl_consI h
    simp only [PyData.hasDictAll, fz_noDict d v h1, go ds r h2, Bool.or_false]
theorem call_reprD (hg : X.A.guards = some []) (hu : X.A.units + 64 < cLine) : CallR X (.builtin "repr") (rReprD X.K) := by
  intro pins s σ H vs us Q I r h
  obtain ⟨x, d, rfl, hf, hs, hd, hz, q⟩ := h
  obtain ⟨u, rfl, ru⟩ := vals1 r
  cases d with
  | none =>
    cases (fz_nonI hf)
    cases (show u = Value.none from ru)
    simp only [PyData.shown] at q
    exact PySem.P.repr_of_none ⟨.str _, H, I.tok _, ⟨_, rfl⟩, q⟩
  | bool b =>
    cases (fz_blI hf)
    cases (show u = Value.bool b from ru)
    simp only [PyData.shown] at q
    exact PySem.P.repr_of_bool ⟨.str _, H, I.tok _, ⟨_, rfl⟩, q⟩
  | int i =>
    cases (fz_intI hf)
    obtain ⟨t, rfl⟩ := ru
    simp only [PyData.shown] at q
    exact PySem.P.repr_of_int (by simpa [PyData.showable] using hs) ⟨.str _, H, I.tok _, ⟨_, rfl⟩, q⟩
  | str i =>
    cases (fz_strI hf)
    obtain ⟨t, rfl⟩ := ru
    simp only [PyData.shown] at q hz
    exact PySem.P.repr_of_str ⟨.str _, H, I.tok _, ⟨_, rfl⟩, q⟩ hz
  | tuple ds =>
    obtain ⟨a, xs, rfl, hq, hfl⟩ := fz_tupI hf
    cases (show u = Value.ref a from ru)
    obtain ⟨as, hr⟩ := Dp.reads I (.tuple ds) (.ref a) (.ref a) (fz_dp _ _ hf) rfl
    refine repr_of_reads' hr hs (fun z => ?_) hg (by omega) (fun _ _ e => e) (fun h' t tk hk => ⟨.str _, H, I.kept (t' := tk) hk, ⟨_, rfl⟩, q⟩) hz
    rw [fz_noDict _ _ hf] at z
    cases z
  | list _ => simp only [Fz] at hf
  | dict _ => simp only [Fz] at hf
/-! ### enumerate(t), t a tuple -/
set_option maxHeartbeats 8000000 in
theorem meets_enum1 {v : Value} {o : Obj} {G : Heap → Prop} (B : Begins v o G) :
    Meets (Builtin.«enumerate.__new__» ⟨[.type "enumerate", v], []⟩) (fun _ R s => G s.heap ∧
      R (.ok (.ret (.ref (s.heap.push o).objs.size))) { s with heap := (s.heap.push o).push { cls := .type "enumerate", data := .fields #[.none, .bool false, .ref s.heap.objs.size, rawInt 0, .none, .none] } }) :=
  .of_wp fun prog w A R s h => by
    obtain ⟨hp, gs, dr, tks, oss⟩ := s
    obtain ⟨g1, h⟩ := h
    have hsub := sub_enumerate
    have q1 : ∀ {A' : Around} {E : Value → Shared → Prop} {Q : Value → Shared → Prop}, Q (.ref hp.objs.size) ⟨hp.push o, gs, dr, tks, oss⟩ → wpAny (model prog w) A' (pyIter v) Q E ⟨hp, gs, dr, tks, oss⟩ :=
      fun z => B.iter prog w _ _ ⟨hp, gs, dr, tks, oss⟩ _ g1 z
    wp_walk using q1
    refine wpAny_stack_any fun st => wpAny_pure ?_
    split
    · rename_i c _ _ _ _ _
      cases (c == Value.type "enumerate")
      all_goals wp_walk using q1
      all_goals exact ⟨_, rfl, h⟩
    · wp_walk using q1
      exact ⟨_, rfl, h⟩
theorem enum1_made {prog : Program} {w : World} {A : Around} {E : Value → Shared → Prop} {s : Shared} {v : Value} {o : Obj} {G : Heap → Prop} {Q : Value → Shared → Prop} (B : Begins v o G) (g1 : G s.heap)
    (k : ∀ h', IsEnum h' (s.heap.objs.size + 1) s.heap.objs.size 0 .none → h'.get? s.heap.objs.size = some o → (∀ b u, s.heap.get? b = some u → h'.get? b = some u) → Q (.ref (s.heap.objs.size + 1)) { s with heap := h' }) :
    wpAny (model prog w) A (call (.type "enumerate") [v]) Q E s := by
  refine callType_new F.called_enumerate (by decide) (F.typeCall_enumerate_1 _) (F.newCall_enumerate_1 _) (fun obj => F.args_object_init_2 obj _) F.entry_enumerate_new (meets_enum1 B) ⟨g1, ?_⟩
  have sz : (s.heap.push o).objs.size = s.heap.objs.size + 1 := Heap.size_push ..
  show _ ∧ _
  rw [sz]
  have ie : IsEnum ((s.heap.push o).push { cls := .type "enumerate", data := .fields #[.none, .bool false, .ref s.heap.objs.size, rawInt 0, .none, .none] }) (s.heap.objs.size + 1) s.heap.objs.size 0 .none := by
    have z := Heap.get?_push_size (s.heap.push o) (o := { cls := .type "enumerate", data := .fields #[.none, .bool false, .ref s.heap.objs.size, rawInt 0, .none, .none] }) rfl
    rw [sz] at z
    exact z
  exact ⟨⟨_, ie, rfl⟩, k _ ie (Heap.get?_push_of_some _ (Heap.get?_push_size _ B.free)) fun b u z => Heap.get?_push_of_some _ (Heap.get?_push_of_some _ z)⟩
/-- the tuple at a, each item in a new pair with its place -/
def IteT (K : PySem.W.Frag) (a : Addr) : It :=
  ⟨fun i H => ∃ (xs : List V) (x : V), SqT K H a xs ∧ xs[i]? = some x,
    fun i H v H' => ∃ T x, v = .ref T ∧ H T = none ∧ H' = upd H T (.tup [.int (i : Nat), x]) ∧ ∀ xs, SqT K H a xs → xs[i]? = some x,
    fun i H => ∃ xs : List V, SqT K H a xs ∧ xs.length = i⟩
theorem turn_enumT {P : Program} {w : World} {K : PySem.W.Frag} {elts : List Expr} {kk : Nat} {tpos : Pos} (a e it : Addr) (hne : e ≠ it) (hea : a ≠ e) (hia : a ≠ it) :
    Turn P w K (.Tuple elts kk tpos) (IteT K a) [e, it] e (fun i h => (∃ old, IsEnum h e it ((i : Nat) : Int) old) ∧ h.IsTupleIter it a i) where
  mem := List.mem_cons_self
  obj := fun i h st b hb => by
    obtain ⟨⟨old, ie⟩, ⟨o, ho, _, hd⟩⟩ := st
    rcases List.mem_cons.mp hb with z | hb
    · rw [z]; exact ⟨_, ie, fun v q => nomatch q⟩
    · rw [List.mem_singleton.mp hb]; exact ⟨o, ho, fun v q => by rw [hd] at q; cases q⟩
  keep := fun i h h' st k => by
    obtain ⟨⟨old, ie⟩, hi⟩ := st
    exact ⟨⟨old, k e (by simp) _ ie⟩, hi.at fun o q => k it (by simp) o q⟩
  item := by
    intro X hP hw hK hc i pins s σ H E I hf st hg
    subst hP hw hK
    obtain ⟨⟨old, ie⟩, hit⟩ := st
    obtain ⟨xs, x, hq, hx⟩ := hg
    obtain ⟨its, rv, p, hz⟩ := I.tuple hq
    obtain ⟨u, hu, ru⟩ := rv.get hx
    have hel : e < s.heap.objs.size := Heap.lt_size ie
    have hlen : i < its.toArray.size := by
      have := (List.getElem?_eq_some_iff.mp hu).1
      simpa using this
    refine wpAny_pyNext_enum_itemD (D := Draws.tuple (A := X.A.in1) (I.ok.hd hc) it a hia its.toArray) ie ⟨hit, p⟩ hlen hne (by simp [hne, Ne.symm hea]) fun y h' tk hy ho hit' hT hsz hk => ?_
    have ey : y = u := by
      have z : its.toArray[i]? = some y := hy
      have z' : its[i]? = some y := by simpa using z
      rw [hu] at z'
      exact (Option.some.inj z').symm
    subst ey
    refine ⟨_, rfl, wpAny_letOwnedTupleGo_enum (s := { s with heap := h', toks := tk + 1 }) ho fun h'' he' sb => ?_⟩
    have hT2 : h''.get? s.heap.objs.size = some { cls := .type "tuple", data := .seq #[.int i tk, y] } := (sb.2 _ (Nat.ne_of_gt hel)).trans hT
    have new : ObjOk X.prog X.w (upd H s.heap.objs.size (.tup [.int (i : Nat), x])) h'' s.heap.objs.size (.tup [.int (i : Nat), x]) :=
      ⟨by show 2 ≤ sizeLine; decide, [.int i tk, y], .cons ⟨_, rfl⟩ (.cons ru .nil), ⟨_, hT2, rfl, _, rfl⟩⟩
    have I1 : Inv X pins σ (upd H s.heap.objs.size (.tup [.int (i : Nat), x])) { s with heap := h'', toks := tk + 1 } :=
      I.turnedNew (ch := [e, it]) (fun b ob hb q => (sb.2 b (fun z => hb (by simp [z]))).trans (hk b ob (fun z => hb (by simp [z])) (fun z => hb (by simp [z])) q)) hf (Nat.le_refl _) new
    refine ⟨.ref s.heap.objs.size, _, I1, rfl, ⟨_, x, rfl, I.hok.fresh (Nat.le_refl _), rfl, fun ys hy => by rw [I.tuple_inj hy hq]; exact hx⟩, ⟨⟨y, ?_⟩, hit'.1.at fun o q => (sb.2 it (Ne.symm hne)).trans q⟩, fun b hb => ?_⟩
    · have e1 : ((i + 1 : Nat) : Int) = (i : Int) + 1 := by omega
      rw [e1]
      exact he'
    · have hb' : b < s.heap.objs.size := by
        rcases List.mem_cons.mp hb with z | z
        · rw [z]; exact hel
        · rw [List.mem_singleton.mp z]; obtain ⟨_, q, _⟩ := hit; exact Heap.lt_size q
      rw [upd_ne (Nat.ne_of_lt hb')]
      exact (hf b hb).1
  done := by
    intro X hP hw hK hc i pins s σ H E I hf st hg
    subst hP hw hK
    obtain ⟨⟨old, ie⟩, hit⟩ := st
    obtain ⟨xs, hq, hx⟩ := hg
    obtain ⟨its, rv, p, hz⟩ := I.tuple hq
    obtain ⟨f0, f1, f2, f3, f4, f5⟩ := hf it (by simp)
    have hl := rv.length
    have en : its.toArray.size = i := by
      rw [List.size_toArray]
      omega
    subst en
    exact wpAny_pyNext_enum_endD (D := Draws.tuple (A := X.A.in1) (I.ok.hd hc) it a hia its.toArray) ie ⟨hit, p⟩ fun h' eb => ⟨rfl, I.turned (t' := s.toks) (fun b o hb q => eb b o hb q) f0 f1 f3 f4 f5⟩
  self := fun A i s Q E st h => by
    obtain ⟨⟨_, ie⟩, _⟩ := st
    exact wpAny_pyIter_enum ie h
def iEnumT (K : PySem.W.Frag) (ta : TA) : TI := fun σ H R => ta σ H fun vs H1 => ∃ (a : Addr) (xs : List V), vs = [.ref a] ∧ SqT K H1 a xs ∧ R (IteT K a) H1
theorem pi_enumT {e : Expr} {ta : TA} {p pos tpos : Pos} {elts : List Expr} {kk : Nat} (hg : Gl X "enumerate") (hm : X.mg "enumerate" = none) (ha : PA X [e] ta) (hs : starEach [e] X.env = [(false, eval e X.env)] := by rfl) :
    PI X (.Tuple elts kk tpos) (.Call (.Name "enumerate" p) [e] [] pos) (iEnumT X.K ta) := by
  refine ⟨fun pins s σ H R I h => ?_⟩
  refine Call_ (ld_blt I hg hm boot_enumerate (PyProof.Rows.callWith_type1 (thn (ha.run pos pins s σ H _ I h) fun us s1 ⟨vs, H1, I1, r1, q1⟩ => ?_) hs rfl))
  obtain ⟨a, xs, rfl, hq, q⟩ := q1
  obtain ⟨u, rfl, ru⟩ := vals1 r1
  cases (show u = Value.ref a from ru)
  obtain ⟨its, rv, p', hz⟩ := I1.tuple hq
  have hlt : a < s1.heap.objs.size := by
    obtain ⟨o, ho, _⟩ := p'
    exact Heap.lt_size ho
  refine enum1_made (begins_tuple a its.toArray) p' fun h' ie hit hk => wpAny_pyIter_enum ie ?_
  have I2 : Inv X pins σ H1 { s1 with heap := h' } := I1.kept (t' := s1.toks) hk
  refine ⟨s1.heap.objs.size + 1, [s1.heap.objs.size + 1, s1.heap.objs.size], _, _, H1, rfl, I2, turn_enumT a (s1.heap.objs.size + 1) s1.heap.objs.size (Nat.succ_ne_self _) (Nat.ne_of_lt (Nat.lt_succ_of_lt hlt)) (Nat.ne_of_lt hlt), ⟨⟨.none, ie⟩, ⟨_, hit, rfl, rfl⟩⟩, fun b hb => ?_, q⟩
  have hle : s1.heap.objs.size ≤ b := by
    rcases List.mem_cons.mp hb with z | z
    · rw [z]; exact Nat.le_succ _
    · rw [List.mem_singleton.mp z]; exact Nat.le_refl _
  exact I1.fpOk hle (I1.hok.fresh hle)
theorem walk_enumT {K : PySem.W.Frag} {a : Addr} {xs : List V} : Walk (IteT K a) xs.length (fun H => SqT K H a xs) (YPair (fun i => some (.int (i : Nat))) (fun i => xs[i]?)) := by
  refine ⟨fun i _ hi q => ⟨xs, xs[i], q, by simp [hi]⟩, fun _ q => ⟨xs, q, rfl⟩, fun i H v H' _ q y => ?_⟩
  obtain ⟨T, x, h1, h2, h3, h4⟩ := y
  exact ⟨T, .int (i : Nat), x, h1, h2, h3, rfl, h4 xs q⟩
theorem walk_zipT {K : PySem.W.Frag} {a b : Addr} {xs ys : List V} (hn : xs.length = ys.length) : Walk (RZ.ItzT K a b) xs.length (fun H => SqT K H a xs ∧ SqT K H b ys) (YPair (fun i => xs[i]?) (fun i => ys[i]?)) := by
  refine ⟨fun i _ hi q => ?_, fun _ q => ⟨xs, ys, q.1, q.2, .inl (Nat.le_refl _)⟩, fun i H v H' _ q y => ?_⟩
  · exact ⟨xs, ys, xs[i], ys[i]'(by omega), q.1, q.2, by simp [hi], by simp [show i < ys.length by omega]⟩
  · obtain ⟨T, x, z, h1, h2, h3, h4, h5⟩ := y
    exact ⟨T, x, z, h1, h2, h3, h4 xs q.1, h5 ys q.2⟩
/-! ### len(set(t)), t a tuple of ints -/
def tLenSetT (K : PySem.W.Frag) (ta : TE) : TE := fun σ H Q => ta σ H fun x H1 => ∃ (a : Addr) (ns : List Int), x = .ref a ∧ SqT K H1 a (ns.map V.int) ∧ ns.length ≤ 1000 ∧ ∀ l : List Int, l.Nodup → (∀ k, k ∈ l ↔ k ∈ ns) → Q (.int (l.length : Int)) H1
theorem pe_lenSetT {a : Expr} {ta : TE} {p p2 q pos : Pos} (hg : Gl X "len") (hm : X.mg "len" = none) (hg2 : Gl X "set") (hm2 : X.mg "set" = none) (ha : PE X a ta) (hc : X.calm = true := by rfl)
    (na : starEach [a] X.env = (false, eval a X.env) :: starEach [] X.env := by rfl) : PE X (.Call (.Name "len" p) [.Call (.Name "set" p2) [a] [] q] [] pos) (tLenSetT X.K ta) := by
  refine ⟨fun pins s σ H Q I h => ?_⟩
  refine Call_ (ld_blt I hg hm boot_len ?_)
  refine PyProof.Rows.callWith_builtin1 (PyProof.Rows.args_cons ?_ rfl) rfl rfl
  refine Call_ (ld_blt I hg2 hm2 boot_set ?_)
  refine PyProof.Rows.callWith_type1 (PyProof.Rows.args_cons (thn (ha.run pins s σ H _ I h) fun v s1 ⟨x, H1, I1, r1, q1⟩ => PyProof.Rows.args_nil ?_) na) na rfl
  obtain ⟨l, ns, rfl, hq, hl, k⟩ := q1
  cases (show v = Value.ref l from r1)
  obtain ⟨its, r, pt, hz⟩ := I1.tuple hq
  refine call_set_tupI ns (I1.ok.hd hc) pt (by simpa using intsAre_of r) (Nat.lt_of_le_of_lt (Nat.succ_le_succ hl) (by decide)) fun h' tk c hS hc' hk => ?_
  refine PyProof.Rows.args_nil ?_
  obtain ⟨o, es, ep, t, ho, hex, hd, _, hnd, hmem, _, hfit, hn, _⟩ := hS
  have I2 : Inv X pins σ H1 { s1 with heap := h', toks := tk } := I1.kept (t' := tk) hk
  have hlen : (es.toList.map keyOf).length = es.size := by rw [List.length_map, Array.length_toList]
  have e1 := k (es.toList.map keyOf) hnd fun j => by rw [← hmem j]; simp
  rw [hlen] at e1
  exact call_len_set ho hex hd hfit (by omega) ⟨.int es.size, H1, I2.tok _, ⟨_, rfl⟩, e1⟩
end
end WT
/-! Toolkit 4: loops over enumerate, zip; lists of lists. -/
namespace WT
open PySem PySem.Spec PyProof.Rows L2 Evl
section
variable {K : PySem.W.Frag} {σ : L2.St} {H H' : Hp} {ta tb tc te tl : TE} {tr : TA} {t u : TT} {d e : PyData} {ds es : List PyData} {v x y : V}
variable {Dn : Ends} {tu tw tz : TS} {g : TG}
abbrev g2 (K : PySem.W.Frag) (i j : Nat) : TG := gTup K 2 (gCons (gName i) (gCons (gName j) gNil))
theorem g2_pair {i j : Nat} {T : Addr} {x y : V} {Q : L2.St → Hp → Prop} (h : H T = some (.tup [x, y])) (q : Q ((σ.set i (some x)).set j (some y)) H) : g2 K i j (.ref T) σ H Q :=
  ⟨T, [x, y], rfl, st_of h, rfl, x, [y], rfl, y, [], rfl, rfl, q⟩
/-- for i, x in enumerate(t) -/
theorem s_forEn {i j : Nat} (h : Ed K tl σ H (.tuple ds)) (k : ∀ H1, Ex H H1 → ∃ Pv : Nat → L2.St → Hp → Prop, Pv 0 σ H1 ∧ (∀ n σ' H', Pv n σ' H' → TEx H1 H') ∧
    (∀ n x d σ' H' H'', ds[n]? = some d → Ex H' H'' → Fz K H'' d x → Pv n σ' H' → tu { Dn with nx := Pv (n + 1), ct := Pv (n + 1), bk := Dn.nx } ((σ'.set i (some (.int (n : Int)))).set j (some x)) H'') ∧
    ∀ σ' H', Pv ds.length σ' H' → Dn.nx σ' H') : tFor (iEnumT K (tCons tl tNil)) (g2 K i j) tu Dn σ H :=
  h H (Ex.refl H) _ fun v H1 e f => by
    obtain ⟨a, xs, rfl, hs, hf⟩ := fz_tupI f
    obtain ⟨Pv, h0, hT, hb, hd⟩ := k H1 e
    refine ⟨a, xs, rfl, hs, for_it (walk_enumT (xs := xs)) Pv h0 (fun n σ' H' _ p => tex_t (hT n σ' H' p) hs) (fun n v σ' H' H'' hn p hy => ?_) fun σ' H' p => hd σ' H' (by rw [fzl_len hf] at p; exact p)⟩
    obtain ⟨T, x, y, rfl, hT0, rfl, ex, ey⟩ := hy
    cases (Option.some.inj ex)
    obtain ⟨d, hd', fd⟩ := fzl_getV hf ey
    exact g2_pair upd_same (hb n y d σ' H' _ hd' (Ex.new hT0) (Fz.mono ((hT n σ' H' p).trans (tex_of (Ex.new hT0))) _ _ fd) p)
theorem q_forEn {i j : Nat} (h : Ed K tl σ H (.tuple ds)) (k : ∀ H1, Ex H H1 → ∃ Pv : Nat → L2.St → Hp → Prop, Pv 0 σ H1 ∧ (∀ n σ' H', Pv n σ' H' → TEx H1 H') ∧
    (∀ n x d σ' H' H'', ds[n]? = some d → Ex H' H'' → Fz K H'' d x → Pv n σ' H' → tu { Dn with nx := Pv (n + 1), ct := Pv (n + 1), bk := tz Dn } ((σ'.set i (some (.int (n : Int)))).set j (some x)) H'') ∧
    ∀ σ' H', Pv ds.length σ' H' → tz Dn σ' H') : tSeq (tFor (iEnumT K (tCons tl tNil)) (g2 K i j) tu) tz Dn σ H := s_forEn (Dn := { Dn with nx := tz Dn }) h k
/-- for x, y in zip(t, u), tuples of one length -/
theorem s_forZip {i j : Nat} (h : Ed K ta σ H (.tuple ds)) (h' : Ed K tb σ H (.tuple es)) (hl : ds.length = es.length) (k : ∀ H1, Ex H H1 → ∃ Pv : Nat → L2.St → Hp → Prop, Pv 0 σ H1 ∧ (∀ n σ' H', Pv n σ' H' → TEx H1 H') ∧
    (∀ n x y d e σ' H' H'', ds[n]? = some d → es[n]? = some e → Ex H' H'' → Fz K H'' d x → Fz K H'' e y → Pv n σ' H' → tu { Dn with nx := Pv (n + 1), ct := Pv (n + 1), bk := Dn.nx } ((σ'.set i (some x)).set j (some y)) H'') ∧
    ∀ σ' H', Pv ds.length σ' H' → Dn.nx σ' H') : tFor (RZ.iZipA K (tCons ta (tCons tb tNil))) (g2 K i j) tu Dn σ H :=
  h H (Ex.refl H) _ fun v H1 e1 f => h' H1 e1 _ fun w H2 e2 f' => by
    obtain ⟨a, xs, rfl, hs, hf⟩ := fz_tupI (fz_ex e2 f)
    obtain ⟨b, ys, rfl, hs', hf'⟩ := fz_tupI f'
    obtain ⟨Pv, h0, hT, hb, hd⟩ := k H2 (e1.trans e2)
    refine ⟨a, b, xs, ys, rfl, .inr ⟨hs, hs', for_it (walk_zipT (xs := xs) (ys := ys) (by rw [fzl_len hf, fzl_len hf', hl])) Pv h0 (fun n σ' H' _ p => ⟨tex_t (hT n σ' H' p) hs, tex_t (hT n σ' H' p) hs'⟩) (fun n v σ' H' H'' hn p hy => ?_) fun σ' H' p => hd σ' H' (by rw [fzl_len hf] at p; exact p)⟩⟩
    obtain ⟨T, x, y, rfl, hT0, rfl, ex, ey⟩ := hy
    obtain ⟨d, hd', fd⟩ := fzl_getV hf ex
    obtain ⟨e, he', fe⟩ := fzl_getV hf' ey
    exact g2_pair upd_same (hb n x y d e σ' H' _ hd' he' (Ex.new hT0) (Fz.mono ((hT n σ' H' p).trans (tex_of (Ex.new hT0))) _ _ fd) (Fz.mono ((hT n σ' H' p).trans (tex_of (Ex.new hT0))) _ _ fe) p)
theorem q_forZip {i j : Nat} (h : Ed K ta σ H (.tuple ds)) (h' : Ed K tb σ H (.tuple es)) (hl : ds.length = es.length) (k : ∀ H1, Ex H H1 → ∃ Pv : Nat → L2.St → Hp → Prop, Pv 0 σ H1 ∧ (∀ n σ' H', Pv n σ' H' → TEx H1 H') ∧
    (∀ n x y d e σ' H' H'', ds[n]? = some d → es[n]? = some e → Ex H' H'' → Fz K H'' d x → Fz K H'' e y → Pv n σ' H' → tu { Dn with nx := Pv (n + 1), ct := Pv (n + 1), bk := tz Dn } ((σ'.set i (some x)).set j (some y)) H'') ∧
    ∀ σ' H', Pv ds.length σ' H' → tz Dn σ' H') : tSeq (tFor (RZ.iZipA K (tCons ta (tCons tb tNil))) (g2 K i j) tu) tz Dn σ H := s_forZip (Dn := { Dn with nx := tz Dn }) h h' hl k
/-! ### lists of lists -/
def RowsL (K : PySem.W.Frag) (H : Hp) : List Addr → List (List PyData) → Prop
  | [], rs => rs = []
  | q :: ps, rs => ∃ r rt, rs = r :: rt ∧ (∃ xs, H q = some (.lst xs) ∧ FzL K H r xs) ∧ RowsL K H ps rt
structure RowsP (K : PySem.W.Frag) (H : Hp) (p : Addr) (ps : List Addr) (rss : List (List PyData)) : Prop where
  outer : H p = some (.lst (ps.map V.ref))
  nd : (p :: ps).Nodup
  rows : RowsL K H ps rss
theorem RowsL.len : ∀ {ps : List Addr} {rss : List (List PyData)}, RowsL K H ps rss → ps.length = rss.length
  | [], _, h => by
    rw [show _ = [] from h]
    rfl
  | q :: ps, _, ⟨r, rt, h, _, h2⟩ => by
    rw [h, List.length_cons, List.length_cons, RowsL.len h2]
theorem RowsL.get : ∀ {ps : List Addr} {rss : List (List PyData)} {i : Nat} {r : List PyData}, RowsL K H ps rss → rss[i]? = some r → ∃ q xs, ps[i]? = some q ∧ H q = some (.lst xs) ∧ FzL K H r xs
  | [], _, _, _, h, e => by
    rw [show _ = [] from h] at e
    simp at e
  | q :: ps, _, 0, _, ⟨r, rt, h, ⟨xs, h1, h2⟩, _⟩, e => by
    rw [h] at e
    cases (Option.some.inj e)
    exact ⟨q, xs, rfl, h1, h2⟩
  | q :: ps, _, i + 1, _, ⟨r, rt, h, _, h2⟩, e => by
    rw [h] at e
    exact RowsL.get (i := i) h2 (by simpa using e)
/-- all rows are kept, tuples too -/
theorem RowsL.keep (tx : TEx H H') : ∀ {ps : List Addr} {rss : List (List PyData)}, (∀ q ∈ ps, ∀ o, H q = some o → H' q = some o) → RowsL K H ps rss → RowsL K H' ps rss
  | [], _, _, h => h
  | q :: ps, _, k, ⟨r, rt, h, ⟨xs, h1, h2⟩, h3⟩ => ⟨r, rt, h, ⟨xs, k q List.mem_cons_self _ h1, FzL.mono tx _ _ h2⟩, RowsL.keep tx (fun z hz => k z (List.mem_cons_of_mem _ hz)) h3⟩
theorem RowsL.app : ∀ {ps qs : List Addr} {rss sss : List (List PyData)}, RowsL K H ps rss → RowsL K H qs sss → RowsL K H (ps ++ qs) (rss ++ sss)
  | [], _, _, _, h, k => by
    rw [show _ = [] from h]
    exact k
  | q :: ps, _, _, _, ⟨r, rt, h, h1, h2⟩, k => by
    rw [h]
    exact ⟨r, _, rfl, h1, RowsL.app h2 k⟩
/-- one row changed -/
theorem RowsL.put {xs' : List V} {r' : List PyData} : ∀ {ps : List Addr} {rss : List (List PyData)} {i : Nat} {q : Addr} {xs : List V}, ps.Nodup → ps[i]? = some q → H q = some (.lst xs) → FzL K (upd H q (.lst xs')) r' xs' → RowsL K H ps rss → RowsL K (upd H q (.lst xs')) ps (rss.set i r')
  | [], _, _, _, _, _, e, _, _, _ => by simp at e
  | z :: ps, _, 0, q, xs, nd, e, hq, hf, ⟨r, rt, h, _, h2⟩ => by
    cases (Option.some.inj e)
    rw [h]
    refine ⟨r', rt, rfl, ⟨xs', upd_same, hf⟩, RowsL.keep (tex_lst hq) (fun y hy o ho => ?_) h2⟩
    have ny : y ≠ z := fun w => (List.nodup_cons.mp nd).1 (w ▸ hy)
    rw [upd_ne ny]
    exact ho
  | z :: ps, _, i + 1, q, xs, nd, e, hq, hf, ⟨r, rt, h, ⟨ys, h1, h2⟩, h3⟩ => by
    have e' : ps[i]? = some q := by simpa using e
    have nz : z ≠ q := fun w => (List.nodup_cons.mp nd).1 (w ▸ List.mem_of_getElem? e')
    rw [h]
    exact ⟨r, rt.set i r', rfl, ⟨ys, by rw [upd_ne nz]; exact h1, FzL.mono (tex_lst hq) _ _ h2⟩, RowsL.put (List.nodup_cons.mp nd).2 e' hq hf h3⟩
theorem RowsP.ex {p : Addr} {ps : List Addr} {rss : List (List PyData)} (e : Ex H H') (R : RowsP K H p ps rss) : RowsP K H' p ps rss :=
  ⟨e _ _ R.outer, R.nd, R.rows.keep (tex_of e) fun q _ o ho => e q o ho⟩
/-- kept but for one object that is none of them -/
theorem RowsP.but {p z : Addr} {ps : List Addr} {rss : List (List PyData)} (tx : TEx H H') (k : ∀ a o, a ≠ z → H a = some o → H' a = some o) (hz : z ∉ p :: ps) (R : RowsP K H p ps rss) : RowsP K H' p ps rss :=
  ⟨k _ _ (fun e => hz (e ▸ List.mem_cons_self)) R.outer, R.nd, R.rows.keep tx fun q hq o ho => k q o (fun e => hz (e ▸ List.mem_cons_of_mem _ hq)) ho⟩
theorem RowsP.put {p q : Addr} {ps : List Addr} {rss : List (List PyData)} {i : Nat} {xs xs' : List V} {r' : List PyData} (R : RowsP K H p ps rss) (hq : ps[i]? = some q) (hx : H q = some (.lst xs)) (hf : FzL K (upd H q (.lst xs')) r' xs') :
    RowsP K (upd H q (.lst xs')) p ps (rss.set i r') :=
  have np : p ≠ q := fun w => (List.nodup_cons.mp R.nd).1 (w ▸ List.mem_of_getElem? hq)
  ⟨by rw [upd_ne np]; exact R.outer, R.nd, R.rows.put (List.nodup_cons.mp R.nd).2 hq hx hf⟩
/-- rows[a] -/
theorem ev_rowAt {p q : Addr} {ps : List Addr} {rss : List (List PyData)} {a : Nat} (R : RowsP K H p ps rss) (hA : Ev ta σ H (.ref p)) (hB : Ev tb σ H (.int (a : Int))) (hq : ps[a]? = some q) : Ev (tOp (rIxL K) ta tb) σ H (.ref q) :=
  ev_op hA hB (rv_ixL (sq_of R.outer) (atI_of (by rw [List.getElem?_map, hq]; rfl)))
/-- rows[a][b] -/
theorem ed_rowAt2 {p : Addr} {ps : List Addr} {rss : List (List PyData)} {a b : Nat} {r : List PyData} (R : RowsP K H p ps rss) (hA : Ev ta σ H (.ref p)) (hB : Ev tb σ H (.int (a : Int))) (hC : Ev tc σ H (.int (b : Int))) (hr : rss[a]? = some r) (hd : r[b]? = some d) :
    Ed K (tOp (rIxL K) (tOp (rIxL K) ta tb) tc) σ H d := by
  obtain ⟨q, xs, hq, hx, hf⟩ := R.rows.get hr
  exact ed_ixL (ev_rowAt R hA hB hq) (sq_of hx) hf hC hd
/-- rows[a][b] = e -/
theorem s_setRow {p : Addr} {ps : List Addr} {rss : List (List PyData)} {a b : Nat} {r : List PyData} (R : RowsP K H p ps rss) (he : Ed K te σ H d) (hA : Ev ta σ H (.ref p)) (hB : Ev tb σ H (.int (a : Int))) (hC : Ev tc σ H (.int (b : Int))) (hr : rss[a]? = some r) (hb : b < r.length)
    (k : ∀ H1 q xs v, q ∈ ps → Ex H H1 → H1 q = some (.lst xs) → RowsP K (upd H1 q (.lst (xs.set b v))) p ps (rss.set a (r.set b d)) → Dn.nx σ (upd H1 q (.lst (xs.set b v)))) :
    tAsg te (gSub (tOp (rIxL K) ta tb) tc rSetL) Dn σ H := he H (Ex.refl H) _ fun v H1 e1 fv => by
  obtain ⟨q, xs, hq, hx, hf⟩ := R.rows.get hr
  refine ev_rowAt R hA hB hq H1 e1 _ fun H2 e2 => hC H2 (e1.trans e2) _ fun H3 e3 => ?_
  have e13 := (e1.trans e2).trans e3
  have h3 := e13 _ _ hx
  refine ⟨q, xs, (b : Int), b, rfl, rfl, h3, ixN_nat (by rw [fzl_len hf]; exact hb), k H3 q xs v (List.mem_of_getElem? hq) e13 h3 ?_⟩
  exact (R.ex e13).put hq h3 (FzL.mono (tex_lst h3) _ _ (fzl_set b (fzl_ex e13 hf) (fz_ex (e2.trans e3) fv)))
theorem q_setRow {p : Addr} {ps : List Addr} {rss : List (List PyData)} {a b : Nat} {r : List PyData} (R : RowsP K H p ps rss) (he : Ed K te σ H d) (hA : Ev ta σ H (.ref p)) (hB : Ev tb σ H (.int (a : Int))) (hC : Ev tc σ H (.int (b : Int))) (hr : rss[a]? = some r) (hb : b < r.length)
    (k : ∀ H1 q xs v, q ∈ ps → Ex H H1 → H1 q = some (.lst xs) → RowsP K (upd H1 q (.lst (xs.set b v))) p ps (rss.set a (r.set b d)) → tz Dn σ (upd H1 q (.lst (xs.set b v)))) :
    tSeq (tAsg te (gSub (tOp (rIxL K) ta tb) tc rSetL)) tz Dn σ H := s_setRow (Dn := { Dn with nx := tz Dn }) R he hA hB hC hr hb k
/-- xs[b] = e of a list of frozen data -/
theorem s_setD {l : Addr} {xs : List V} {b : Nat} (hl : H l = some (.lst xs)) (he : Ed K te σ H d) (hA : Ev ta σ H (.ref l)) (hB : Ev tb σ H (.int (b : Int))) (hb : b < xs.length)
    (k : ∀ v H1, Ex H H1 → Fz K H1 d v → Dn.nx σ (upd H1 l (.lst (xs.set b v)))) : tAsg te (gSub ta tb rSetL) Dn σ H := he H (Ex.refl H) _ fun v H1 e1 fv =>
  hA H1 e1 _ fun H2 e2 => hB H2 (e1.trans e2) _ fun H3 e3 => ⟨l, xs, (b : Int), b, rfl, rfl, ((e1.trans e2).trans e3) _ _ hl, ixN_nat hb, k v H3 ((e1.trans e2).trans e3) (fz_ex (e2.trans e3) fv)⟩
theorem q_setD {l : Addr} {xs : List V} {b : Nat} (hl : H l = some (.lst xs)) (he : Ed K te σ H d) (hA : Ev ta σ H (.ref l)) (hB : Ev tb σ H (.int (b : Int))) (hb : b < xs.length)
    (k : ∀ v H1, Ex H H1 → Fz K H1 d v → tz Dn σ (upd H1 l (.lst (xs.set b v)))) : tSeq (tAsg te (gSub ta tb rSetL)) tz Dn σ H := s_setD (Dn := { Dn with nx := tz Dn }) hl he hA hB hb k
theorem fzl_repl (n : Nat) (h : Fz K H d v) : FzL K H (List.replicate n d) (List.replicate n v) := by
  induction n with
  | zero => exact fzl_nil
  | succ n ih => exact fzl_cons h ih
/-- [d] * n -/
theorem el_rep {n : Nat} (h : El K ta σ H [d]) (hb : Ev tb σ H (.int (n : Int))) (hn : n ≤ 100000) : El K (tOp rRep ta tb) σ H (List.replicate n d) := fun H1 e Q q =>
  h H1 e _ fun p xs H2 hp e2 hx f => hb H2 (e.trans e2) _ fun H3 e3 => by
    obtain ⟨v, r, rfl, fv, fr⟩ := fzl_consI f
    rw [fzl_nilI fr] at hx
    have en : (List.replicate (n : Int).toNat [v]).flatten = List.replicate n v := by
      rw [Int.toNat_natCast]
      induction n with
      | zero => rfl
      | succ n ih => simp
    refine ⟨p, n, [v], rfl, rfl, e3 _ _ hx, by omega, by omega, sz_of (by simp; omega), fun l hl => ?_⟩
    rw [en]
    refine q l _ _ (fresh_back (e2.trans e3) hl) ((e2.trans e3).trans (Ex.new hl)) upd_same (fzl_ex (Ex.new hl) ?_)
    exact fzl_repl n (fz_ex e3 fv)
/-! ### comprehensions whose elements are new lists -/
def ElR (K : PySem.W.Frag) (te : TE) (σ : L2.St) (H : Hp) (rss : List (List PyData)) : Prop := ∀ H1, Ex H H1 → ∀ Q : VK, (∀ p ps H2, (∀ q ∈ p :: ps, H1 q = none) → Ex H1 H2 → RowsP K H2 p ps rss → Q (.ref p) H2) → te σ H1 Q
def CwR (K : PySem.W.Frag) (H : Hp) (out : Nat → List (List PyData)) (Dl : Addr) (i : Nat) (H' : Hp) : Prop := Ex H H' ∧ ∃ ps, (∀ q ∈ Dl :: ps, H q = none) ∧ RowsP K H' Dl ps (out i)
theorem cwr_turn {out : Nat → List (List PyData)} {Dl : Addr} {i : Nat} {σ2 : L2.St} {r : List PyData} (p : CwR K H out Dl i H') (hi : (out i).length < 100000) (h : ∀ H3, Ex H H3 → Ex H' H3 → El K te σ2 H3 r) (ho : out (i + 1) = out i ++ [r]) :
    ∀ H4, Ex H' H4 → tYes σ2 H4 fun b H3 => if b = true then te σ2 H3 fun y H4 => ∃ acc, H4 Dl = some (.lst acc) ∧ acc.length < sizeLine ∧ CwR K H out Dl (i + 1) (upd H4 Dl (.lst (acc ++ [y]))) else CwR K H out Dl (i + 1) H3 := by
  intro Hs es
  obtain ⟨p1, ps, p2, R⟩ := p
  show te σ2 Hs fun y H4 => ∃ acc, H4 Dl = some (.lst acc) ∧ acc.length < sizeLine ∧ CwR K H out Dl (i + 1) (upd H4 Dl (.lst (acc ++ [y])))
  refine h Hs (p1.trans es) es Hs (Ex.refl _) _ fun q xs H4 hq e4 hx f => ?_
  have R4 := R.ex (es.trans e4)
  have nq : q ∉ Dl :: ps := fun hm => by
    rcases List.mem_cons.mp hm with z | z
    · rw [z, es _ _ R.outer] at hq
      cases hq
    · obtain ⟨j, hj⟩ := List.getElem?_of_mem z
      have hl := R.rows.len
      have hjl := (List.getElem?_eq_some_iff.mp hj).1
      obtain ⟨q', xs', hq', hx', _⟩ := R.rows.get (List.getElem?_eq_getElem (by omega : j < (out i).length))
      rw [hj] at hq'
      cases hq'
      rw [es _ _ hx'] at hq
      cases hq
  have nDl : q ≠ Dl := fun z => nq (z ▸ List.mem_cons_self)
  refine ⟨ps.map V.ref, R4.outer, sz_lt (by rw [List.length_map, R.rows.len]; exact hi), Ex.mut (p1.trans (es.trans e4)) (p2 _ List.mem_cons_self), ps ++ [q], fun z hz => ?_, ?_, ?_, ?_⟩
  · rcases List.mem_cons.mp hz with z' | z'
    · exact z' ▸ p2 _ List.mem_cons_self
    · rcases List.mem_append.mp z' with z' | z'
      · exact p2 _ (List.mem_cons_of_mem _ z')
      · rw [List.mem_singleton.mp z']
        exact fresh_back (p1.trans es) hq
  · rw [List.map_append]
    exact upd_same
  · have nd := R.nd
    rw [List.nodup_cons] at nd ⊢
    refine ⟨fun hm => ?_, ?_⟩
    · rcases List.mem_append.mp hm with z | z
      · exact nd.1 z
      · exact nDl (List.mem_singleton.mp z).symm
    · rw [List.nodup_append]
      exact ⟨nd.2, by simp, fun a ha b hb => by rw [List.mem_singleton.mp hb]; exact fun z => nq (z ▸ List.mem_cons_of_mem _ ha)⟩
  · rw [ho]
    have tx : TEx H4 (upd H4 Dl (.lst (ps.map V.ref ++ [V.ref q]))) := tex_lst R4.outer
    refine RowsL.app (RowsL.keep tx (fun a ha o hao => ?_) R4.rows) ⟨r, [], rfl, ⟨xs, by rw [upd_ne nDl]; exact hx, FzL.mono tx _ _ f⟩, rfl⟩
    have na : a ≠ Dl := fun z => (List.nodup_cons.mp R.nd).1 (z ▸ ha)
    rw [upd_ne na]
    exact hao
theorem cwr_zero {out : Nat → List (List PyData)} {Dl : Addr} (hD : H Dl = none) (h0 : out 0 = []) : CwR K H out Dl 0 (upd H Dl (.lst [])) :=
  ⟨Ex.new hD, [], fun q hq => by rw [List.mem_singleton.mp hq]; exact hD, upd_same, by simp, h0⟩
/-- over a tuple -/
theorem er_lcTd {j : Nat} {vs : List Nat} (out : Nat → List (List PyData)) (h : Ed K tl σ H (.tuple ds)) (h0 : out 0 = []) (hz : ∀ i, i < ds.length → (out i).length < 100000) (hw : ∀ x, wipe ((wipe σ vs).set j (some x)) vs = wipe σ vs)
    (hs : ∀ (i : Nat) (x : V) d H1, Ex H H1 → ds[i]? = some d → Fz K H1 d x → ∃ r, El K te ((wipe σ vs).set j (some x)) H1 r ∧ out (i + 1) = out i ++ [r]) :
    ElR K (tLc (iTup K tl) (gName j) tYes te vs) σ H (out ds.length) := fun H0 e Q q => h H0 e _ fun v H1 e1 f => by
  obtain ⟨a, xs, rfl, hx, hf⟩ := fz_tupI f
  refine ⟨a, rfl, ⟨xs, hx⟩, fun Dl hD => lc_tup (xs := xs) (CwR K H1 out Dl) (cwr_zero hD h0) (fun i H' _ p => ex_t p.1 hx) (fun i x H' hi p => ?_) (fun H' p => ?_)⟩
  · obtain ⟨d, hd, fd⟩ := fzl_getV hf hi
    obtain ⟨r, _, ho⟩ := hs i x d H1 (e.trans e1) hd fd
    refine ⟨hw x, cwr_turn p (hz i (by have := (List.getElem?_eq_some_iff.mp hd).1; omega)) (fun H3 e3 _ => ?_) ho H' (Ex.refl _)⟩
    obtain ⟨r', hr', ho'⟩ := hs i x d H3 ((e.trans e1).trans e3) hd (fz_ex e3 fd)
    rw [ho] at ho'
    have er : r = r' := List.cons.inj (List.append_cancel_left ho') |>.1
    exact er ▸ hr'
  · obtain ⟨p1, ps, p2, R⟩ := p
    rw [fzl_len hf] at R
    exact q Dl ps H' (fun z hz => fresh_back e1 (p2 z hz)) (e1.trans p1) R
/-- over range(n) -/
theorem er_lcRd {ta : TA} {j : Nat} {vs : List Nat} {n : Nat} (out : Nat → List (List PyData)) (h : EvA ta σ H [.int (n : Int)]) (hn : n ≤ 40000) (h0 : out 0 = []) (hz : ∀ i, i < n → (out i).length < 100000) (hw : ∀ x, wipe ((wipe σ vs).set j (some x)) vs = wipe σ vs)
    (hs : ∀ (i : Nat) H1, Ex H H1 → i < n → ∃ r, El K te ((wipe σ vs).set j (some (.int (i : Int)))) H1 r ∧ out (i + 1) = out i ++ [r]) :
    ElR K (tLc (iRng1 ta) (gName j) tYes te vs) σ H (out n) := fun H0 e Q q => h H0 e _ fun H1 e1 => ⟨n, rfl, by omega, by omega, fun Dl hD =>
  lc_range (lo := 0) (n := n) (CwR K H1 out Dl) (cwr_zero hD h0) (fun i H' hi p => by
    have e0 : (0 : Int) + (i : Int) = (i : Int) := Int.zero_add _
    show wipe ((wipe σ vs).set j (some (.int ((0 : Int) + (i : Int))))) vs = wipe σ vs ∧ tYes ((wipe σ vs).set j (some (.int ((0 : Int) + (i : Int))))) H' fun b H3 => if b = true then te ((wipe σ vs).set j (some (.int ((0 : Int) + (i : Int))))) H3 fun y H4 => ∃ acc, H4 Dl = some (.lst acc) ∧ acc.length < sizeLine ∧ CwR K H1 out Dl (i + 1) (upd H4 Dl (.lst (acc ++ [y]))) else CwR K H1 out Dl (i + 1) H3
    rw [e0]
    obtain ⟨r, _, ho⟩ := hs i H1 (e.trans e1) hi
    refine ⟨hw _, cwr_turn p (hz i hi) (fun H3 e3 _ => ?_) ho H' (Ex.refl _)⟩
    obtain ⟨r', hr', ho'⟩ := hs i H3 ((e.trans e1).trans e3) hi
    rw [ho] at ho'
    have er : r = r' := List.cons.inj (List.append_cancel_left ho') |>.1
    exact er ▸ hr') (fun H' p => by
    obtain ⟨p1, ps, p2, R⟩ := p
    exact q Dl ps H' (fun z hz => fresh_back e1 (p2 z hz)) (e1.trans p1) R)⟩
/-- [tuple(row) for row in rows] and its like: over a list of lists -/
theorem el_lcRows {j : Nat} {vs : List Nat} {p : Addr} {ps : List Addr} {rss : List (List PyData)} (out : Nat → List PyData) (h : Ev tl σ H (.ref p)) (R : RowsP K H p ps rss) (h0 : out 0 = []) (hz : ∀ i, i < rss.length → (out i).length < 100000) (hw : ∀ x, wipe ((wipe σ vs).set j (some x)) vs = wipe σ vs)
    (hs : ∀ (i : Nat) q xs r H1, Ex H H1 → rss[i]? = some r → H1 q = some (.lst xs) → FzL K H1 r xs → ∃ d, Ed K te ((wipe σ vs).set j (some (.ref q))) H1 d ∧ out (i + 1) = out i ++ [d]) :
    El K (tLc (iList K tl) (gName j) tYes te vs) σ H (out rss.length) := fun H0 e Q k => h H0 e _ fun H1 e1 => by
  have R1 := R.ex (e.trans e1)
  refine ⟨p, rfl, ⟨_, sq_of R1.outer⟩, fun Dl hD => lc_list (xs := ps.map V.ref) (CwD K H1 out Dl) ⟨hD, Ex.new hD, [], upd_same, by rw [h0]; exact fzl_nil⟩ (fun i H' _ p => sq_of (p.2.1 _ _ R1.outer)) (fun i x H' hi p => ?_) (fun H' p => ?_)⟩
  · rw [List.getElem?_map] at hi
    cases hq : ps[i]? with
    | none =>
      rw [hq] at hi
      cases hi
    | some q =>
      rw [hq] at hi
      cases (Option.some.inj hi)
      have hil : i < rss.length := by
        have := (List.getElem?_eq_some_iff.mp hq).1
        rw [← R.rows.len]
        exact this
      obtain ⟨q', xs, hq', hx, hf⟩ := R1.rows.get (List.getElem?_eq_getElem hil)
      rw [hq] at hq'
      cases hq'
      refine ⟨hw _, cwd_turn p (hz i hil) (fun H3 e3 _ => ?_) H' (Ex.refl _)⟩
      obtain ⟨d, hd, ho⟩ := hs i q xs _ H3 ((e.trans e1).trans e3) (List.getElem?_eq_getElem hil) (e3 _ _ hx) (fzl_ex e3 hf)
      exact turn_all et_yes hd ho
  · obtain ⟨p1, p2, acc, p3, p4⟩ := p
    rw [List.length_map, R.rows.len] at p4
    exact k Dl acc H' (fresh_back e1 p1) (e1.trans p2) p3 p4
theorem q_asgR {i : Nat} {rss : List (List PyData)} (h : ElR K te σ H rss) (k : ∀ p ps H1, (∀ q ∈ p :: ps, H q = none) → Ex H H1 → RowsP K H1 p ps rss → tz Dn (σ.set i (some (.ref p))) H1) : tSeq (tAsg te (gName i)) tz Dn σ H := h H (Ex.refl H) _ fun p ps H1 hp e R => k p ps H1 hp e R
end
end WT
/-! Toolkit 5: defs by name (Okd), defs that are called where nothing is being written out (Okg), the law's end over such. -/
namespace WT
open PySem PySem.Spec PyProof.Rows L2 Evl
/-! ### a def as it stands, by its name -/
structure DefIn (K : PySem.W.Frag) (mg : Str → Option Value) (x : Str) (ps : List Str) (st : Stmt) : Prop where
  ex : ∃ (f : Addr) (fd : FuncData), Fun K x x st f fd ∧ mg x = some (.ref f) ∧ Binds K fd ps []
def Okd (P : Program) (w : World) (K : PySem.W.Frag) (mg : Str → Option Value) (base : Heap) (x : Str) (ps : List Str) (st : Stmt) (k : Nat) (sp : Sp) : Prop :=
  ∃ (f : Addr) (fd : FuncData), mg x = some (.ref f) ∧ Fun K x x st f fd ∧ Binds K fd ps [] ∧ FnOk P w K mg base CX0 k f fd ps sp
/-- a def's promise, kept wherever it is called with nothing being written out (repr) around -/
structure FnG (P : Program) (w : World) (K : PySem.W.Frag) (mg : Str → Option Value) (base : Heap) (k : Nat) (f : Addr) (fd : FuncData) (ps : List Str) (sp : Sp) : Prop where
  len : ∀ vs H Q E, sp vs H Q E → vs.length = ps.length
  run : ∀ (A : Around) (out : List Env) (s : Shared) (H : Hp) (args : Args) (us : List Value) (vs : List V) (Q : VK) (E : XK), A.guards = some [] → Room k A → Env0 P w K mg base A out s H →
    BindsTo s fd args (ps.zip us) → Vals vs us → sp vs H Q E → codeAny (model P w) A (.call (.ref f) args) (CR CX0 out P w H s Q E) s
def Okg (P : Program) (w : World) (K : PySem.W.Frag) (mg : Str → Option Value) (base : Heap) (x : Str) (ps : List Str) (st : Stmt) (k : Nat) (sp : Sp) : Prop :=
  ∃ (f : Addr) (fd : FuncData), mg x = some (.ref f) ∧ Fun K x x st f fd ∧ Binds K fd ps [] ∧ FnG P w K mg base k f fd ps sp
section
variable {P : Program} {w : World} {K : PySem.W.Frag} {mg : Str → Option Value} {base : Heap}
theorem Okd.mk {x : Str} {ps N : List Str} {st : Stmt} {k : Nat} {sp : Sp} (d : DefIn K mg x ps st) (S : FnScope N ps (defScope st)) (len : ∀ vs H Q E, sp vs H Q E → vs.length = ps.length)
    (h : ∀ (f : Addr) (cdv : Value) (A : Around) (outer : List Env) (s : Shared) (H : Hp) (vs : List V) (Q : VK) (E : XK), Room k (A.deeper (envOfC x (defScope st) s.heap.objs.size f cdv)) → sp vs H Q E →
      ∃ t, PSs (cxOf CX0 P w K mg base N x (defScope st) f cdv A outer s H E).nox (defBody st) t ∧ t { nx := fun _ H' => Q .non H', rt := Q } (start N vs) H) : Okd P w K mg base x ps st (k + 1) sp := by
  obtain ⟨f, fd, F, g, b⟩ := d.ex
  exact ⟨f, fd, g, F, b, F.ok S len fun cdv A outer s H vs Q E => h f cdv A outer s H vs Q E⟩
theorem Okd.lift {x : Str} {ps : List Str} {st : Stmt} {j k : Nat} {sp : Sp} (o : Okd P w K mg base x ps st j sp) (h : j ≤ k) : Okd P w K mg base x ps st k sp := by
  obtain ⟨f, fd, g, kp, b, G⟩ := o
  exact ⟨f, fd, g, kp, b, G.mono h⟩
theorem Okd.weak {x : Str} {ps : List Str} {st : Stmt} {k : Nat} {sp sp' : Sp} (o : Okd P w K mg base x ps st k sp) (h : ∀ vs H Q E, sp' vs H Q E → sp vs H Q E) : Okd P w K mg base x ps st k sp' := by
  obtain ⟨f, fd, g, kp, b, G⟩ := o
  exact ⟨f, fd, g, kp, b, G.imp h⟩
/-- a def that is well wherever it is called is well here -/
theorem Okd.g {x : Str} {ps : List Str} {st : Stmt} {k : Nat} {sp : Sp} (o : Okd P w K mg base x ps st k sp) : Okg P w K mg base x ps st k sp := by
  obtain ⟨f, fd, g, kp, b, G⟩ := o
  exact ⟨f, fd, g, kp, b, G.len, fun A out s H args us vs Q E _ hr => G.run A out s H args us vs Q E hr⟩
theorem Okg.mk {x : Str} {ps N : List Str} {st : Stmt} {k : Nat} {sp : Sp} (d : DefIn K mg x ps st) (S : FnScope N ps (defScope st)) (len : ∀ vs H Q E, sp vs H Q E → vs.length = ps.length)
    (h : ∀ (f : Addr) (cdv : Value) (A : Around) (outer : List Env) (s : Shared) (H : Hp) (vs : List V) (Q : VK) (E : XK), A.guards = some [] → Room k (A.deeper (envOfC x (defScope st) s.heap.objs.size f cdv)) → sp vs H Q E →
      ∃ t, PSs (cxOf CX0 P w K mg base N x (defScope st) f cdv A outer s H E).nox (defBody st) t ∧ t { nx := fun _ H' => Q .non H', rt := Q } (start N vs) H) : Okg P w K mg base x ps st (k + 1) sp := by
  obtain ⟨f, fd, F, g, b⟩ := d.ex
  refine ⟨f, fd, g, F, b, len, fun A out s H args us vs Q E hgd hr e0 hb r hsp => ?_⟩
  obtain ⟨oc, od, kV, doc, pm, an, cdv, ct, osl, rfl, lk, hcd⟩ := F.ex
  have hl := len _ _ _ _ hsp
  have kin : K.In s.heap := e0.mod.kin.keeps fun b o e => (e0.bs b o e).1
  have nol : s.heap.NoLimit := e0.mod.nolimit.keeps fun b o e => (e0.bs b o e).1
  have kinds : ∀ y ∈ ps.zip us, (defScope st).names.lookup y.1 = some .local ∨ ((defScope st).names.lookup y.1 = some .cell ∧ ((cellsFrom (s.heap.objs.size + 1) (defScope st).names []).lookup y.1).isSome = true) := fun y hy => by
    have hm : y.1 ∈ ps := (List.of_mem_zip (show (y.1, y.2) ∈ ps.zip us from hy)).1
    rcases S.par y.1 hm with q | q
    · exact .inl q
    · exact .inr ⟨q, PySem.W.cellsFrom_some _ _ _ (.inl q)⟩
  refine codeAny_call_function hr.depth (kin _ _ lk) rfl S.co S.gen rfl (PySem.W.codeRec_of kin hcd) (hb _ _ _ _ ?_)
  refine wpAny_newFunctionEnv_cells S.kind kinds fun env he s1 nx => ?_
  subst he
  refine ⟨nol.keeps nx.toInCall.keep, codeAny_func ?_⟩
  obtain ⟨t, ht, hq⟩ := h f cdv A out s H vs Q E hgd (hr.deeper _) hsp
  have I : Inv (cxOf CX0 P w K mg base N x (defScope st) f cdv A out s H E) [] (start N vs) H s1 := inv_start S hr.hd e0 hl r nx
  refine wpAny_mono (ht.nox.run [] s1 (start N vs) H _ I hq) (fun fl s' hs => ?_) fun e s' hs => hs
  have close : ∀ {σ' : L2.St} {H' : Hp} {v : V} {u : Value}, Inv (cxOf CX0 P w K mg base N x (defScope st) f cdv A out s H E) [] σ' H' s' → RelV v u → Q v H' → CE out P w H s Q u s' :=
    fun {_ H' v _} J rv q => ⟨v, H', J.os, J.bare, J.base, J.hok, rv, q⟩
  match fl, hs with
  | .ret u, ⟨v, σ', H', J, rv, q⟩ => exact close J rv q
  | .next, ⟨σ', H', J, q⟩ => exact close (v := V.non) (u := Value.none) J rfl q
  | .brk, ⟨_, _, _, q⟩ => exact False.elim q
  | .cont, ⟨_, _, _, q⟩ => exact False.elim q
end
section
variable {X : Cx} {k : Nat} {x : Str} {p pos : Pos} {e : Expr} {es : List Expr} {t tk : TA} {ps ks : List Str} {sp : Sp} {st : Stmt} {kws : List Keyword}
theorem pe_fn (o : Okd X.prog X.w X.K X.mg X.base x ps st k sp) (hr : Room k X.A) (ha : PA X (e :: es) t) (hg : Gl X x := by rfl) (hdb : (x == ("__debug__" : Str)) = false := by decide)
    (he : starEach (e :: es) X.env = (false, eval e X.env) :: starEach es X.env := by rfl) (hpl : (backTo pos (starEach es X.env)).any (·.1) = false := by rfl) : PE X (.Call (.Name x p) (e :: es) [] pos) (tCall sp [] E0 t) := by
  obtain ⟨f, fd, g, kp, b, G⟩ := o
  exact pe_call G hr hg g kp.kp b .nil pass0 ha hdb he hpl
theorem pe_fnG (o : Okg X.prog X.w X.K X.mg X.base x ps st k sp) (hgd : X.A.guards = some []) (hr : Room k X.A) (ha : PA X (e :: es) t) (hg : Gl X x := by rfl) (hdb : (x == ("__debug__" : Str)) = false := by decide)
    (he : starEach (e :: es) X.env = (false, eval e X.env) :: starEach es X.env := by rfl) (hpl : (backTo pos (starEach es X.env)).any (·.1) = false := by rfl) : PE X (.Call (.Name x p) (e :: es) [] pos) (tCall sp [] E0 t) := by
  obtain ⟨f, fd, g, kp, b, G⟩ := o
  refine ⟨fun pins s σ H Q I h => wpAny_Call_Name_kw (ld_glob I hg g ?_ hdb)⟩
  refine PySem.W.callWith_K (h₀ := X.base) I.ok.mod.kin kp.kp (thn (ha.run pos pins s σ H _ I h) fun us s1 hvs => ?_) he hpl
  obtain ⟨vs, H1, I1, r, q⟩ := hvs
  refine ⟨I1.kIn, ?_⟩
  rw [List.append_nil] at q
  have hl : us.length = ps.length := by rw [← r.length]; exact G.len _ _ _ _ q
  refine wpAny_call (codeAny_mono (G.run X.A X.stack s1 H1 ⟨us, []⟩ us vs Q E0 hgd hr I1.env0 ?_ r q) fun rs s' hq => ?_)
  · have z := b s1 us I1.kIn (by rw [List.append_nil]; exact hl)
    rw [List.append_nil] at z
    exact z
  · match rs, hq with
    | .ok (.ret u), hq => exact I1.after hq
    | .ok .next, hq => exact False.elim hq
    | .ok .brk, hq => exact False.elim hq
    | .ok .cont, hq => exact False.elim hq
    | .error _, hq => exact False.elim hq
/-- how the arguments and the keywords' values come to the parameters: h is «fun _ _ _ _ _ _ us ws hl => match us, ws, hl with | [_, _], [_], _ => rfl» -/
theorem kbOf {K : PySem.W.Frag} {f : Addr} {fd : FuncData} {g : List Value → List Value → List Value} {gV : List V → List V → List V} (F : Fun K x x st f fd) (rel : ∀ {vs : List V} {us : List Value} {zs : List V} {ws : List Value}, Vals vs us → Vals zs ws → Vals (gV vs zs) (g us ws))
    (h : ∀ (kV doc pm : Value) (an : Option Addr) (cdv ct : Value) (us ws : List Value), (g us ws).length = ps.length → bindArgs (PySem.W.fnOf x x (defArgs st) (defBody st) (defScope st) .none kV doc pm an cdv ct) ⟨us, ks.zip ws⟩ = pure (ps.zip (g us ws))) : KBinds K fd ps ks g gV := by
  obtain ⟨oc, od, kV, doc, pm, an, cdv, ct, osl, rfl, lk, hcd⟩ := F.ex
  exact ⟨fun s us ws _ hl => .of_eq (h kV doc pm an cdv ct us ws hl), rel⟩
/-- f(a, .., k = b, ..) -/
theorem pe_fnK {g : List Value → List Value → List Value} {gV : List V → List V → List V} (o : Okd X.prog X.w X.K X.mg X.base x ps st k sp) (hr : Room k X.A) (hb : ∀ (f : Addr) (fd : FuncData), Fun X.K x x st f fd → KBinds X.K fd ps ks g gV) (ha : PA X (e :: es) t) (hkw : PK X kws tk)
    (hall : (backToKw pos (keywordEach kws X.env)).all (·.1.isSome) = true := by rfl) (hks : (backToKw pos (keywordEach kws X.env)).filterMap (·.1) = ks := by rfl) (hg : Gl X x := by rfl)
    (hdb : (x == ("__debug__" : Str)) = false := by decide) (he : starEach (e :: es) X.env = (false, eval e X.env) :: starEach es X.env := by rfl)
    (hpl : ((backTo pos (starEach (e :: es) X.env)).any (·.1) || (backToKw pos (keywordEach kws X.env)).any (·.1.isNone)) = false := by rfl) : PE X (.Call (.Name x p) (e :: es) kws pos) (tCallK sp gV E0 t tk) := by
  obtain ⟨f, fd, gm, F, b, G⟩ := o
  exact pe_callK G hr hg gm F.kp (hb f fd F) pass0 ha hkw hall hks hdb he hpl
end
end WT
/-! Toolkit 6: the law's own call, over a promise of the kind Okg. -/
namespace WT
open PySem PySem.Spec PyProof.Rows L2 Evl
section
variable {P : Program} {w : World} {K : PySem.W.Frag} {mg mb : Str → Option Value} {k : Nat} {fa a : Addr} {fd : FuncData} {x : Str} {sp : Sp} {s : Shared} {vs : List Value} {ns : List Int}
/-- from one abstract heap that tracks at most the script -/
theorem call_from (kin : K.In s.heap) (glo : s.heap.Ns mainGlobals mg) (blt : s.heap.Ns builtinsNs mb) (bok : ∀ y : Str, y ≠ "__name__" → mb y = bootBuiltins y) (nol : s.heap.NoLimit) (gen : s.gens = #[])
    (ho : s.heap.get? a = some { cls := .type "list", data := .seq vs.toArray }) (hr : Room k callerA) (F : ∀ base : Heap, K.In base → base.Ns mainGlobals mg → FnG P w K mg base k fa fd [x] sp)
    (hb : ∀ (s : Shared) (u : Value), BindsTo s fd ⟨[u], []⟩ [(x, u)]) (H : Hp) (only : Only H) (hsp : sp [.ref a] H (fun v _ => v = .bl true) fun _ _ _ => False) (hok : HOk P w H s.heap)
    (one : ∀ b, H b ≠ none → b = a) (noK : H a ≠ none → K.lookup a = none) :
    codeAny (model P w) callerA (.call (.ref fa) ⟨[.ref a], []⟩) (fun r s' => r = .ok (.ret (.bool true)) ∧ OldK s.heap s'.heap ∧ s'.os = s.os ∧ AllBare s'.gens) s := by
  have dictFree : ∀ {b : Addr} {o : Obj} {es : Array DictEntry} {ep : Nat}, s.heap.get? b = some o → o.data = .dict es ep → H b = none := by
    intro b o es ep e d
    cases q : H b with
    | none => rfl
    | some u =>
      have z : b = a := one b (by rw [q]; simp)
      rw [z, ho] at e
      cases e
      cases d
  have ns1 : ∀ {b : Addr} {m : Str → Option Value}, s.heap.Ns b m → (hidT s.heap H).Ns b m := by
    rintro b m ⟨o, es, ep, e, d, r⟩
    exact ⟨o, es, ep, hidT_get e (dictFree e d), d, r⟩
  have kin1 : K.In (hidT s.heap H) := by
    intro b o e
    refine hidT_get (kin b o e) ?_
    cases q : H b with
    | none => rfl
    | some u =>
      have z : b = a := one b (by rw [q]; simp)
      subst z
      rw [noK (by rw [q]; simp)] at e
      cases e
  have md : Mod K mg (hidT s.heap H) := by
    obtain ⟨mc, n1, n2⟩ := nol
    exact ⟨kin1, ns1 glo, ⟨mb, ns1 blt, bok⟩, mc, ns1 n1, n2⟩
  have e0 : Env0 P w K mg (hidT s.heap H) callerA [] s H :=
    ⟨rfl, md, fun b o e => of_hidT e, Nat.le_of_eq (hidT_size _ _), trivial, (fun b hb => absurd (show b ∈ ([] : List Addr) from hb) (by simp)), hok, AllBare.of_eq gen⟩
  refine codeAny_mono ((F _ kin1 (ns1 glo)).run callerA [] s H ⟨[.ref a], []⟩ [.ref a] [.ref a] _ _ rfl hr e0 (hb s (.ref a)) (.cons rfl .nil) hsp) fun r s' h => ?_
  match r, h with
  | .error _, h => exact False.elim h
  | .ok .next, h => exact False.elim h
  | .ok .brk, h => exact False.elim h
  | .ok .cont, h => exact False.elim h
  | .ok (.ret u), h =>
    obtain ⟨v, H', os1, bare1, un, hok1, rv, q⟩ := h
    cases (show v = .bl true from q)
    obtain rfl : u = Value.bool true := rv
    refine ⟨rfl, OldK.of_keep fun b o e => ?_, os1, bare1⟩
    rcases only b with z | ⟨ob, xs, z⟩
    · exact un.keep b o e z (by intro y; exact absurd (show b ∈ ([] : List Addr) from y) (by simp)) (by simp)
    · obtain ⟨e1, _⟩ := hok b _ z
      obtain ⟨e2, _⟩ := hok1 b _ (un.frzs b ob _ z)
      rw [e] at e1
      cases e1
      exact e2
theorem lawG (kin : K.In s.heap) (glo : s.heap.Ns mainGlobals mg) (blt : s.heap.Ns builtinsNs mb) (bok : ∀ y : Str, y ≠ "__name__" → mb y = bootBuiltins y) (nol : s.heap.NoLimit) (gen : s.gens = #[])
    (ho : s.heap.get? a = some { cls := .type "list", data := .seq vs.toArray }) (hi : IntsAre vs ns) (hl : ns.length ≤ sizeLine) (hr : Room k callerA) (F : ∀ base : Heap, K.In base → base.Ns mainGlobals mg → FnG P w K mg base k fa fd [x] sp)
    (hb : ∀ (s : Shared) (u : Value), BindsTo s fd ⟨[u], []⟩ [(x, u)]) (hsp : ∀ H : Hp, Only H → SqL K H a (ns.map V.int) → sp [.ref a] H (fun v _ => v = .bl true) fun _ _ _ => False) :
    codeAny (model P w) callerA (.call (.ref fa) ⟨[.ref a], []⟩) (fun r s' => r = .ok (.ret (.bool true)) ∧ OldK s.heap s'.heap ∧ s'.os = s.os ∧ AllBare s'.gens) s := by
  have rv := vals_ints hi
  have ln := hi.length
  cases hk : K.lookup a with
  | some o =>
    have e := kin a o hk
    rw [ho] at e
    cases e
    have S : SqL K (fun _ => none) a (ns.map V.int) := .inr ⟨_, vs.toArray, _, hk, rfl, rfl, rfl, by rw [List.size_toArray, ln]; exact hl, by simpa using rv⟩
    have O : Only (fun _ => none) := fun _ => .inl rfl
    exact call_from kin glo blt bok nol gen ho hr F hb _ O (hsp _ O S) (fun b u z => nomatch (show (none : Option HO) = some u from z)) (fun b z => absurd rfl z) fun z => absurd rfl z
  | none =>
    have at_a : (fun b : Addr => if b = a then some (HO.frz { cls := .type "list", data := .seq vs.toArray } (.lst (ns.map V.int))) else none) a = some (HO.frz { cls := .type "list", data := .seq vs.toArray } (.lst (ns.map V.int))) := if_pos rfl
    have off : ∀ b : Addr, b ≠ a → (fun b : Addr => if b = a then some (HO.frz { cls := .type "list", data := .seq vs.toArray } (.lst (ns.map V.int))) else none) b = none := fun b n => if_neg n
    have O : Only (fun b : Addr => if b = a then some (HO.frz { cls := .type "list", data := .seq vs.toArray } (.lst (ns.map V.int))) else none) := fun b => by
      by_cases e : b = a
      · subst e
        exact .inr ⟨_, _, at_a⟩
      · exact .inl (off b e)
    refine call_from kin glo blt bok nol gen ho hr F hb _ O (hsp _ O (.inl (.inr ⟨_, at_a⟩))) (fun b u z => ?_) (fun b z => ?_) fun _ => hk
    · by_cases e : b = a
      · subst e
        have z1 := at_a.symm.trans z
        cases z1
        exact ⟨ho, by rw [List.length_map]; exact hl, vs, _, rv, ho⟩
      · have z1 := (off b e).symm.trans z
        cases z1
    · by_cases e : b = a
      · exact e
      · exact absurd (off b e) z
end
/-- the goal that k_head leaves, from the law's promise -/
theorem walkG {l : PySem.W.OpenLaw} {n k : Nat} {q : Program} {loose : List Str} {XP : (Str → Option Value) → Heap → Prop} {YP : World → Heap → Prop} {d : DefRec} {K : Params → PySem.W.Frag} {sp : PySem.W.Frag → Sp} {x : Str}
    (hn : l.most = some n) (hn2 : n ≤ sizeLine) (hdf : d.params.defaults = []) (hr : Room k callerA) (hY : ∀ (w : World) (h : Heap), YP w h → (K w.params).In h)
    (F : ∀ (w : World) (mg : Str → Option Value) (fa : Addr) (h : Heap), (K w.params).In h → h.Ns mainGlobals mg → mg d.name = some (.ref fa) →
      ∃ fd : FuncData, (∀ (s : Shared) (u : Value), BindsTo s fd ⟨[u], []⟩ [(x, u)]) ∧ ∀ base : Heap, (K w.params).In base → base.Ns mainGlobals mg → FnG l.prog w (K w.params) mg base k fa fd [x] (sp (K w.params)))
    (hsp : ∀ (K : PySem.W.Frag) (H : Hp) (a : Addr) (ns : List Int), ns.length ≤ n → Only H → SqL K H a (ns.map V.int) → sp K [.ref a] H (fun v _ => v = .bl true) fun _ _ _ => False) :
    PySem.W.WalkO q loose XP YP l.row.toRowW d [] (fun f vs => PySem.call f vs) := by
  refine Att.attach_call hn hdf fun w s0 s mg mb fa o pm cd doc a vs ns G Y ho hd hcd hmg hobj hints hlen hg => ?_
  have kin := hY w _ Y
  obtain ⟨fd, hb, hF⟩ := F w mg fa _ kin G.T.g hmg
  exact lawG kin G.T.g G.T.b G.T.builtins G.T.nolimit hg hobj hints (Nat.le_trans hlen hn2) hr hF hb fun H hO hS => hsp _ H a ns hlen hO hS
end WT
/-! Toolkit 7: built-in calls on numbers, and what they evaluate to. -/
namespace WT
open PySem PySem.Spec PyProof.Rows L2 Evl
abbrev rAbs : List V → Hp → VK → Prop := fun xs H Q => ∃ i, xs = [.int i] ∧ Q (.int (if i < 0 then -i else i)) H
abbrev rInt1 : List V → Hp → VK → Prop := fun xs H Q => (∃ i, xs = [.int i] ∧ Q (.int i) H) ∨ ∃ k, xs = [.bl k] ∧ Q (.int (if k then 1 else 0)) H
abbrev rMin2 : List V → Hp → VK → Prop := fun xs H Q => ∃ i j, xs = [.int i, .int j] ∧ Q (.int (if j < i then j else i)) H
section
variable {K : PySem.W.Frag} {σ : L2.St} {H H' : Hp} {ta tb tc te tl : TE} {tr : TA} {t u : TT} {d e : PyData} {ds es : List PyData} {v x y : V}
theorem ev_abs {i : Int} (h : Ev ta σ H (.int i)) : Ev (tCB rAbs (tCons ta tNil)) σ H (.int (if i < 0 then -i else i)) := fun H1 e Q q => h H1 e _ fun H2 e2 => ⟨i, rfl, q H2 e2⟩
theorem ev_int1 {i : Int} (h : Ev ta σ H (.int i)) : Ev (tCB rInt1 (tCons ta tNil)) σ H (.int i) := fun H1 e Q q => h H1 e _ fun H2 e2 => .inl ⟨i, rfl, q H2 e2⟩
theorem ev_intB {b : Bool} (h : Ev ta σ H (.bl b)) : Ev (tCB rInt1 (tCons ta tNil)) σ H (.int (if b then 1 else 0)) := fun H1 e Q q => h H1 e _ fun H2 e2 => .inr ⟨b, rfl, q H2 e2⟩
theorem ev_min2 {i j : Int} (ha : Ev ta σ H (.int i)) (hb : Ev tb σ H (.int j)) : Ev (tCB rMin2 (tCons ta (tCons tb tNil))) σ H (.int (if j < i then j else i)) := fun H1 e Q q =>
  ha H1 e _ fun H2 e2 => hb H2 (e.trans e2) _ fun H3 e3 => ⟨i, j, rfl, q H3 (e2.trans e3)⟩
/-- sum(xs[..]) of a list of ints made on the way -/
theorem ev_sumN {ns : List Int} (h : El K ta σ H (ns.map PyData.int)) : Ev (tCB (rSum K) (tCons ta tNil)) σ H (.int ns.sum) := fun H1 e Q q => h H1 e _ fun p xs H2 _ e2 hx f => by
  rw [fzl_ints.mp f] at hx
  exact ⟨p, ns, rfl, sq_of hx, q H2 e2⟩
theorem cutV_take {xs : List V} {n : Nat} : cutV xs none (some (n : Int)) = xs.take n := by
  unfold cutV
  rw [HT.sIx_none, show HT.sIx xs.length xs.length (some (n : Int)) = min n xs.length from HT.sIx_nat xs.length xs.length n, List.drop_zero, Nat.sub_zero]
  by_cases h : n ≤ xs.length
  · rw [Nat.min_eq_left h]
  · rw [Nat.min_eq_right (by omega), List.take_of_length_le (Nat.le_refl _), List.take_of_length_le (by omega)]
theorem cutV_all {xs : List V} : cutV xs none none = xs := by
  unfold cutV
  rw [HT.sIx_none, HT.sIx_none, List.drop_zero, Nat.sub_zero, List.take_of_length_le (Nat.le_refl _)]
theorem el_slice {p : Addr} {xs : List V} {tlo thi : TO} {lo hi : Option Int} (h : Ev ta σ H (.ref p)) (h1 : EvO tlo σ H lo) (h2 : EvO thi σ H hi) (hp : SqL K H p xs) (hf : FzL K H ds (cutV xs lo hi)) : El K (tSl (rSlL K) ta tlo thi) σ H ds := fun H1 e Q q =>
  el_sl h h1 h2 hp H1 e Q fun l H2 hl e2 hx => q l _ H2 hl e2 hx (fzl_ex (e.trans e2) hf)
theorem ev_val {te : TE} (h : Ev te σ H v) (e : v = x) : Ev te σ H x := e ▸ h
/-- a op1 b op2 c of ints -/
theorem ev_chain {p q : Int → Int → Bool} {i j k : Int} (ha : Ev ta σ H (.int i)) (hb : Ev tb σ H (.int j)) (hc : Ev tc σ H (.int k)) : Ev (tChain (rI0 fun i j => .bl (p i j)) (rI0 fun i j => .bl (q i j)) ta tb tc) σ H (.bl (p i j && q j k)) := fun H1 e Q z =>
  ha H1 e _ fun H2 e2 => hb H2 (e.trans e2) _ fun H3 e3 => ⟨i, j, rfl, rfl, p i j, rfl, by
    cases hp : p i j with
    | true =>
      rw [hp] at z
      refine iteT (hc H3 ((e.trans e2).trans e3) _ fun H4 e4 => ⟨j, k, rfl, rfl, ?_⟩)
      exact z H4 ((e2.trans e3).trans e4)
    | false =>
      rw [hp] at z
      exact iteF (z H3 (e2.trans e3))⟩
theorem ev_listRg {n : Nat} (h : Ev te σ H (.int (n : Int))) (hn : n ≤ 100000) : El K (tLstRg (tRg1 te)) σ H ((List.range n).map fun i : Nat => PyData.int (i : Int)) := fun H1 e Q q =>
  h H1 e _ fun H2 e2 => ⟨n, rfl, RgOk.of_le (by omega) (by omega) (by omega) (by omega), fun p hp => q p _ _ (fresh_back e2 hp) (e2.trans (Ex.new hp)) upd_same (by
    have ee : rgV 0 (n : Int) = vN (List.range n) := by
      unfold rgV vN
      rw [Int.sub_zero, Int.toNat_natCast]
      refine List.map_congr_left fun i _ => ?_
      rw [Int.zero_add]
    rw [ee]
    exact fzl_nats.mpr rfl)⟩
theorem ed_tupRg {n : Nat} (h : Ev te σ H (.int (n : Int))) (hn : n ≤ 100000) : Ed K (tTupRg (tRg1 te)) σ H (tN (List.range n)) := fun H1 e Q q =>
  h H1 e _ fun H2 e2 => ⟨n, rfl, RgOk.of_le (by omega) (by omega) (by omega) (by omega), fun p hp => q (.ref p) _ (e2.trans (Ex.new hp)) (by
    have ee : rgV 0 (n : Int) = vN (List.range n) := by
      unfold rgV vN
      rw [Int.sub_zero, Int.toNat_natCast]
      refine List.map_congr_left fun i _ => ?_
      rw [Int.zero_add]
    rw [ee]
    exact fz_tN.mpr ⟨p, rfl, st_of upd_same⟩)⟩
/-- isinstance(x, T), T a built-in class -/
theorem ev_isi {A T : String} {r : Bool} (h : Ev ta σ H x) (hx : ∀ H1, Ex H H1 → TyX K H1 x (.type A)) (hr : kitB A T = some r) : Ev (tCB (rIsi K) (tCons ta (tCons (tC (.ty T)) tNil))) σ H (.bl r) := fun H1 e Q q =>
  h H1 e _ fun H2 e2 => ⟨x, .ty T, .type A, .type T, r, rfl, .ty T, hx H2 (e.trans e2), kit_ty hr, q H2 e2⟩
theorem tyx_tup {a : Addr} {xs : List V} (h : SqT K H a xs) : TyX K H (.ref a) (.type "tuple") := by
  rcases h with (h | ⟨o, h⟩) | ⟨o, its, n, h1, h2, _⟩
  · exact .base (.tup h)
  · exact .fTuple h
  · exact .kTuple h1 h2
theorem ev_isiD {A T : String} {r : Bool} (h : Ed K ta σ H d) (hx : ∀ H1 v, Fz K H1 d v → TyX K H1 v (.type A)) (hr : kitB A T = some r) : Ev (tCB (rIsi K) (tCons ta (tCons (tC (.ty T)) tNil))) σ H (.bl r) := fun H1 e Q q =>
  h H1 e _ fun v H2 e2 f => ⟨v, .ty T, .type A, .type T, r, rfl, .ty T, hx H2 v f, kit_ty hr, q H2 e2⟩
theorem ev_isiT {T : String} {r : Bool} (h : Ed K ta σ H (.tuple ds)) (hr : kitB "tuple" T = some r) : Ev (tCB (rIsi K) (tCons ta (tCons (tC (.ty T)) tNil))) σ H (.bl r) :=
  ev_isiD h (fun H1 v f => by
    obtain ⟨a, xs, rfl, hs, _⟩ := fz_tupI f
    exact tyx_tup hs) hr
theorem ev_isiI {i : Int} {T : String} {r : Bool} (h : Ev ta σ H (.int i)) (hr : kitB "int" T = some r) : Ev (tCB (rIsi K) (tCons ta (tCons (tC (.ty T)) tNil))) σ H (.bl r) := ev_isi h (fun H1 _ => .base (.int i)) hr
theorem ev_isiB {i : Bool} {T : String} {r : Bool} (h : Ev ta σ H (.bl i)) (hr : kitB "bool" T = some r) : Ev (tCB (rIsi K) (tCons ta (tCons (tC (.ty T)) tNil))) σ H (.bl r) := ev_isi h (fun H1 _ => .base (.bl i)) hr
theorem ev_isiS {i : Str} {T : String} {r : Bool} (h : Ev ta σ H (.str i)) (hr : kitB "str" T = some r) : Ev (tCB (rIsi K) (tCons ta (tCons (tC (.ty T)) tNil))) σ H (.bl r) := ev_isi h (fun H1 _ => .base (.str i)) hr
/-- x in t, x not in t: t a tuple of naturals, of ints -/
theorem inV_ints (i : Int) : ∀ ns : List Int, inV (.int i) (ns.map V.int) = decide (i ∈ ns)
  | [] => rfl
  | n :: ns => by
    show (eqV (.int n) (.int i) || inV (.int i) (ns.map V.int)) = _
    rw [inV_ints i ns]
    have e1 : eqV (.int n) (.int i) = decide (n = i) := by
      show (n == i) = _
      cases h : (n == i) with
      | true => rw [beq_iff_eq.mp h]; simp
      | false => simp [beq_eq_false_iff_ne.mp h]
    rw [e1]
    by_cases h : n = i
    · simp [h]
    · have h' : ¬ i = n := fun z => h z.symm
      simp [h, h']
theorem ev_inT {neg : Bool} {i : Int} {ns : List Int} (h : Ev ta σ H (.int i)) (k : Ed K tb σ H (.tuple (ns.map PyData.int))) : Ev (tOp (rIn K neg) ta tb) σ H (.bl (if neg then !decide (i ∈ ns) else decide (i ∈ ns))) := fun H1 e Q q =>
  h H1 e _ fun H2 e2 => k H2 (e.trans e2) _ fun w H3 e3 g => by
    obtain ⟨a, xs, rfl, hs, hf⟩ := fz_tupI g
    rw [fzl_ints.mp hf] at hs
    refine ⟨a, _, rfl, .inr hs, rfl, ?_, ?_⟩
    · rw [List.all_eq_true]
      intro z hz
      obtain ⟨n, _, rfl⟩ := List.mem_map.mp hz
      rfl
    · rw [inV_ints]
      exact q H3 (e2.trans e3)
/-- d in l, d not in l: a list of plain data that stands -/
theorem fzl_dpl {p : Addr} {xs : List V} (h : SqL K H p xs) (f : FzL K H ds xs) : Dp K H (.ref p) (.list ds) := .lst h (fzl_dp _ _ f)
theorem shaped_list {n : Nat} (h : ∀ d ∈ ds, plain d = true ∧ d.depth ≤ n) (hn : n ≤ 60) : SeqAt.shaped (.list ds) = true := by
  unfold SeqAt.shaped
  have h1 : (PyData.list ds).canLay0 = true := by
    simp only [PyData.canLay0]
    exact plain_layL _ (plainL_all fun d hd => (h d hd).1)
  have h2 : (PyData.list ds).depth ≤ 64 := by
    simp only [PyData.depth]
    have := depthAll_le (ds := ds) fun d hd => (h d hd).2
    omega
  rw [h1, decide_eq_true h2]
  rfl
theorem ev_inLd {p : Addr} {xs : List V} {n : Nat} (h : Ed K ta σ H d) (k : Ev tb σ H (.ref p)) (hp : SqL K H p xs) (f : FzL K H ds xs) (pd : Plain d) (ps : ∀ d ∈ ds, plain d = true ∧ d.depth ≤ n) (hn : n ≤ 60) : Ev (tOp (rInD K) ta tb) σ H (.bl (ds.any fun z => PyData.eqv z d)) := fun H1 e Q q =>
  h H1 e _ fun v H2 e2 g => k H2 (e.trans e2) _ fun H3 e3 => ⟨d, ds, fz_dp _ _ (fz_ex e3 g), fzl_dpl (ex_l ((e.trans e2).trans e3) hp) (fzl_ex ((e.trans e2).trans e3) f), pd.shaped, shaped_list ps hn, q H3 (e2.trans e3)⟩
theorem ev_notInLd {p : Addr} {xs : List V} {n : Nat} (h : Ed K ta σ H d) (k : Ev tb σ H (.ref p)) (hp : SqL K H p xs) (f : FzL K H ds xs) (pd : Plain d) (ps : ∀ d ∈ ds, plain d = true ∧ d.depth ≤ n) (hn : n ≤ 60) : Ev (tOp (rNotInD K) ta tb) σ H (.bl (!ds.any fun z => PyData.eqv z d)) := fun H1 e Q q =>
  h H1 e _ fun v H2 e2 g => k H2 (e.trans e2) _ fun H3 e3 => ⟨d, ds, fz_dp _ _ (fz_ex e3 g), fzl_dpl (ex_l ((e.trans e2).trans e3) hp) (fzl_ex ((e.trans e2).trans e3) f), pd.shaped, shaped_list ps hn, q H3 (e2.trans e3)⟩
/-- repr(d) -/
theorem ev_repr (h : Ed K ta σ H d) (hs : d.showable = true) (hd : d.depth ≤ 50) (hz : d.shown.length ≤ sizeLine) : Ev (tCB (rReprD K) (tCons ta tNil)) σ H (.str d.shown) := fun H1 e Q q => h H1 e _ fun v H2 e2 f => ⟨v, d, rfl, f, hs, hd, hz, q H2 e2⟩
/-- len(set(t)) of unlike naturals -/
theorem ev_lenSet {ns : List Int} (h : Ed K ta σ H (.tuple (ns.map PyData.int))) (hl : ns.length ≤ 1000) (c : Nat) (hc : ∀ l : List Int, l.Nodup → (∀ k, k ∈ l ↔ k ∈ ns) → l.length = c) : Ev (tLenSetT K ta) σ H (.int (c : Int)) := fun H1 e Q q => h H1 e _ fun v H2 e2 f => by
  obtain ⟨a, xs, rfl, hs, hf⟩ := fz_tupI f
  rw [fzl_ints.mp hf] at hs
  exact ⟨a, ns, rfl, hs, hl, fun l h1 h2 => by rw [hc l h1 h2]; exact q H2 e2⟩
theorem nodup_len {l m : List Int} (h1 : l.Nodup) (h2 : m.Nodup) (h : ∀ k, k ∈ l ↔ k ∈ m) : l.length = m.length := ((List.perm_ext_iff_of_nodup h1 h2).mpr h).length_eq
/-- min([..]) of data -/
theorem ed_minN (h : El K ta σ H (d :: ds)) (ha : PySem.W.AlikeAll (d :: ds)) (hd : PyData.depthAll (d :: ds) ≤ 50) : Ed K (tCB (rMinD K) (tCons ta tNil)) σ H (PySem.W.minD d ds) := fun H1 e Q q => h H1 e _ fun p xs H2 _ e2 hx f =>
  ⟨p, xs, d, ds, rfl, sq_of hx, f, ha, hd, fun v hv => q v H2 e2 hv⟩
/-- t < u of tuples of ints -/
theorem ev_ltT {ns ms : List Int} (h : Ed K ta σ H (.tuple (ns.map PyData.int))) (k : Ed K tb σ H (.tuple (ms.map PyData.int))) : Ev (tOp (rLtT K) ta tb) σ H (.bl (HT.lexLt ns ms)) := fun H1 e Q q =>
  h H1 e _ fun v H2 e2 f => k H2 (e.trans e2) _ fun w H3 e3 g => by
    obtain ⟨a, xs, rfl, hs, hf⟩ := fz_tupI (fz_ex e3 f)
    obtain ⟨b, ys, rfl, hs', hf'⟩ := fz_tupI g
    rw [fzl_ints.mp hf] at hs
    rw [fzl_ints.mp hf'] at hs'
    exact ⟨a, b, ns, ms, rfl, rfl, hs, hs', q H3 (e2.trans e3)⟩
/-- t + u -/
theorem ed_catA (h : Ed K ta σ H (.tuple ds)) (k : Ed K tb σ H (.tuple es)) (hl : ds.length + es.length ≤ 100000) : Ed K (tOp (rCatA K) ta tb) σ H (.tuple (ds ++ es)) := fun H1 e Q q =>
  h H1 e _ fun v H2 e2 f => k H2 (e.trans e2) _ fun w H3 e3 g => by
    obtain ⟨a, xs, rfl, hs, hf⟩ := fz_tupI (fz_ex e3 f)
    obtain ⟨b, ys, rfl, hs', hf'⟩ := fz_tupI g
    refine ⟨a, b, xs, ys, rfl, rfl, hs, hs', sz_of (by rw [fzl_len hf, fzl_len hf']; exact hl), fun h1 => ?_, fun _ h1 => ?_, fun _ _ p hp => ?_⟩
    · subst h1
      have := fzl_len hf
      have z : ds = [] := List.eq_nil_of_length_eq_zero this.symm
      subst z
      exact q _ H3 (e2.trans e3) (fz_tup hs' hf')
    · subst h1
      have := fzl_len hf'
      have z : es = [] := List.eq_nil_of_length_eq_zero this.symm
      subst z
      exact q _ H3 (e2.trans e3) (by rw [List.append_nil]; exact fz_tup hs hf)
    · exact q (.ref p) _ ((e2.trans e3).trans (Ex.new hp)) (fz_tup (st_of upd_same) (fzl_ex (Ex.new hp) (fzl_append hf hf')))
/-- an assignment of something of a kind -/
theorem q_asgX {Dn : Ends} {tz : TS} {i : Nat} {P : V → Prop} (h : ∃ v, P v ∧ Ev te σ H v) (k : ∀ v, P v → ∀ H1, Ex H H1 → tz Dn (σ.set i (some v)) H1) : tSeq (tAsg te (gName i)) tz Dn σ H := by
  obtain ⟨v, p, e⟩ := h
  exact q_asg e (k v p)
theorem cMulL {i j : Int} (h : -(2 ^ 64) < i ∧ i < 2 ^ 64) : CMul i j := .inl h
theorem cMulR {i j : Int} (h : -(2 ^ 64) < j ∧ j < 2 ^ 64) : CMul i j := .inr h
theorem ints_take {ns : List Int} {n : Nat} : FzL K H ((ns.take n).map PyData.int) (cutV (ns.map V.int) none (some (n : Int))) := by
  rw [cutV_take, ← List.map_take]
  exact fzl_ints.mpr rfl
end
end WT
/-! Toolkit 8: comprehensions as map and filter; a draw in the midst of an expression. -/
namespace WT
open PySem PySem.Spec PyProof.Rows L2 Evl
section
variable {K : PySem.W.Frag} {σ : L2.St} {H H' : Hp} {ta tb tc te tl : TE} {tr : TA} {t u tt : TT} {d e : PyData} {ds es : List PyData} {v x y : V}
theorem el_is (h : El K te σ H ds) (e : ds = es) : El K te σ H es := e ▸ h
theorem ea_is {as bs : List Ag} (h : Ea K tr σ H as) (e : as = bs) : Ea K tr σ H bs := e ▸ h
theorem elr_is {rs ss : List (List PyData)} (h : ElR K te σ H rs) (e : rs = ss) : ElR K te σ H ss := e ▸ h
theorem take_get {α : Type} {l : List α} {i : Nat} {x : α} (h : l[i]? = some x) : l.take (i + 1) = l.take i ++ [x] := by
  rw [List.take_succ, h]
  rfl
theorem get_of_len {α β : Type} {l : List α} {m : List β} {i : Nat} {x : α} (h : l[i]? = some x) (hl : m.length = l.length) : ∃ y, m[i]? = some y := by
  have := (List.getElem?_eq_some_iff.mp h).1
  exact ⟨m[i]'(by omega), List.getElem?_eq_getElem _⟩
theorem filter_get {α β : Type} {l : List α} {p : α → Bool} {g : α → β} {i : Nat} {x : α} (h : l[i]? = some x) (hp : p x = true) : ((l.take (i + 1)).filter p).map g = ((l.take i).filter p).map g ++ [g x] := by
  rw [take_get h, List.filter_append, List.map_append]
  simp [hp]
theorem filter_not {α β : Type} {l : List α} {p : α → Bool} {g : α → β} {i : Nat} {x : α} (h : l[i]? = some x) (hp : p x = false) : ((l.take (i + 1)).filter p).map g = ((l.take i).filter p).map g := by
  rw [take_get h, List.filter_append, List.map_append]
  simp [hp]
theorem filter_len {α β : Type} {l : List α} {p : α → Bool} {g : α → β} {i n : Nat} (h : l.length ≤ n) : (((l.take i).filter p).map g).length ≤ n := by
  rw [List.length_map]
  refine Nat.le_trans (List.length_filter_le _ _) ?_
  rw [List.length_take]
  omega
/-- [e for x in t] -/
theorem el_mapT {j : Nat} {vs : List Nat} (h : Ed K tl σ H (.tuple ds)) (hn : ds.length ≤ 50000) (hl : es.length = ds.length) (hw : ∀ x, wipe ((wipe σ vs).set j (some x)) vs = wipe σ vs)
    (hs : ∀ (i : Nat) (x : V) d e H1, Ex H H1 → ds[i]? = some d → es[i]? = some e → Fz K H1 d x → Ed K te ((wipe σ vs).set j (some x)) H1 e) :
    El K (tLc (iTup K tl) (gName j) tYes te vs) σ H es := el_is (el_lcTd (out := fun i => es.take i) h rfl (fun i hi => by rw [List.length_take]; omega) hw fun i x d H1 e1 hd f => by
  obtain ⟨e, he⟩ := get_of_len hd hl
  exact turn_all et_yes (hs i x d e H1 e1 hd he f) (take_get he)) (by rw [List.take_of_length_le (by omega)])
/-- [e for x in xs] -/
theorem el_mapL {j : Nat} {vs : List Nat} {a : Addr} {xs : List V} (h : Ev tl σ H (.ref a)) (hx : SqL K H a xs) (hf : FzL K H ds xs) (hn : ds.length ≤ 50000) (hl : es.length = ds.length) (hw : ∀ x, wipe ((wipe σ vs).set j (some x)) vs = wipe σ vs)
    (hs : ∀ (i : Nat) (x : V) d e H1, Ex H H1 → ds[i]? = some d → es[i]? = some e → Fz K H1 d x → Ed K te ((wipe σ vs).set j (some x)) H1 e) :
    El K (tLc (iList K tl) (gName j) tYes te vs) σ H es := el_is (el_lcLd (out := fun i => es.take i) h hx hf rfl (fun i hi => by rw [List.length_take]; omega) hw fun i x d H1 e1 hd f => by
  obtain ⟨e, he⟩ := get_of_len hd hl
  exact turn_all et_yes (hs i x d e H1 e1 hd he f) (take_get he)) (by rw [List.take_of_length_le (by omega)])
/-- [e for x in xs if c] -/
theorem el_filtL {j : Nat} {vs : List Nat} {a : Addr} {xs : List V} (p : PyData → Bool) (g : PyData → PyData) (h : Ev tl σ H (.ref a)) (hx : SqL K H a xs) (hf : FzL K H ds xs) (hn : ds.length ≤ 50000) (hw : ∀ x, wipe ((wipe σ vs).set j (some x)) vs = wipe σ vs)
    (hs : ∀ (i : Nat) (x : V) d H1, Ex H H1 → ds[i]? = some d → Fz K H1 d x → EvT tt ((wipe σ vs).set j (some x)) H1 (p d) ∧ (p d = true → Ed K te ((wipe σ vs).set j (some x)) H1 (g d))) :
    El K (tLc (iList K tl) (gName j) tt te vs) σ H ((ds.filter p).map g) := el_is (el_lcLd (out := fun i => ((ds.take i).filter p).map g) h hx hf rfl (fun i hi => Nat.lt_of_le_of_lt (filter_len hn) (by decide)) hw fun i x d H1 e1 hd f => by
  obtain ⟨h1, h2⟩ := hs i x d H1 e1 hd f
  exact ⟨_, h1, fun z => ⟨_, h2 z, filter_get hd z⟩, fun z => filter_not hd z⟩) (by rw [List.take_of_length_le (Nat.le_refl _)])
/-- [e for x in range(n)] -/
theorem el_mapR {ta : TA} {j n : Nat} {vs : List Nat} (h : EvA ta σ H [.int (n : Int)]) (hn : n ≤ 40000) (hl : es.length = n) (hw : ∀ x, wipe ((wipe σ vs).set j (some x)) vs = wipe σ vs)
    (hs : ∀ (i : Nat) e H1, Ex H H1 → i < n → es[i]? = some e → Ed K te ((wipe σ vs).set j (some (.int (i : Int)))) H1 e) :
    El K (tLc (iRng1 ta) (gName j) tYes te vs) σ H es := el_is (el_lcRd (out := fun i => es.take i) h hn rfl (fun i hi => by rw [List.length_take]; omega) hw fun i H1 e1 hi => by
  have he : es[i]? = some (es[i]'(by omega)) := List.getElem?_eq_getElem _
  exact turn_all et_yes (hs i _ H1 e1 hi he) (take_get he)) (by rw [List.take_of_length_le (by omega)])
/-- [e for x in range(n) if c] -/
theorem el_filtR {ta : TA} {j n : Nat} {vs : List Nat} (p : Nat → Bool) (g : Nat → PyData) (h : EvA ta σ H [.int (n : Int)]) (hn : n ≤ 40000) (hw : ∀ x, wipe ((wipe σ vs).set j (some x)) vs = wipe σ vs)
    (hs : ∀ (i : Nat) H1, Ex H H1 → i < n → EvT tt ((wipe σ vs).set j (some (.int (i : Int)))) H1 (p i) ∧ (p i = true → Ed K te ((wipe σ vs).set j (some (.int (i : Int)))) H1 (g i))) :
    El K (tLc (iRng1 ta) (gName j) tt te vs) σ H (((List.range n).filter p).map g) := el_is (el_lcRd (out := fun i => (((List.range n).take i).filter p).map g) h hn rfl (fun i hi => Nat.lt_of_le_of_lt (filter_len (n := 40000) (by rw [List.length_range]; exact hn)) (by decide)) hw fun i H1 e1 hi => by
  obtain ⟨h1, h2⟩ := hs i H1 e1 hi
  have he : (List.range n)[i]? = some i := by rw [List.getElem?_range hi]
  exact ⟨_, h1, fun z => ⟨_, h2 z, filter_get he z⟩, fun z => filter_not he z⟩) (by rw [List.take_of_length_le (by rw [List.length_range]; exact Nat.le_refl _)])
theorem tN_get {ns : List Nat} {i : Nat} {d : PyData} (h : (ns.map fun n : Nat => PyData.int (n : Int))[i]? = some d) : ∃ n : Nat, ns[i]? = some n ∧ d = .int (n : Int) := by
  rw [List.getElem?_map] at h
  cases hn : ns[i]? with
  | none => rw [hn] at h; cases h
  | some n => rw [hn] at h; exact ⟨n, rfl, (Option.some.inj h).symm⟩
theorem map_get {α β : Type} {f : α → β} {l : List α} {i : Nat} {y : β} (h : (l.map f)[i]? = some y) : ∃ x, l[i]? = some x ∧ y = f x := by
  rw [List.getElem?_map] at h
  cases hn : l[i]? with
  | none => rw [hn] at h; cases h
  | some n => rw [hn] at h; exact ⟨n, rfl, (Option.some.inj h).symm⟩
end
section
variable {X : Cx} {K : PySem.W.Frag}
/-! rules within a comprehension, said of the outer fragment -/
theorem oK {f : Value → Value → Sem Value} {r : PySem.W.Frag → R2} (h : OpR X f (r X.K)) (e : X.K = K) : OpR X f (r K) := e ▸ h
theorem cK {f : Value} {r : PySem.W.Frag → List V → Hp → VK → Prop} (h : CallR X f (r X.K)) (e : X.K = K) : CallR X f (r K) := e ▸ h
theorem xK {r : PySem.W.Frag → R2} (h : IxR X (r X.K)) (e : X.K = K) : IxR X (r K) := e ▸ h
theorem sK {r : PySem.W.Frag → V → Option Int → Option Int → Hp → VK → Prop} (h : SlR X (r X.K)) (e : X.K = K) : SlR X (r K) := e ▸ h
end
section
variable {σ : L2.St} {H : Hp} {te ta : TE} {tr : TA} {tz : TS} {Dn : Ends} {Q : VK}
/-! readings opened -/
theorem q_parM {i j : Nat} (h : tr σ H fun vs H1 => ∃ v w, vs = [v, w] ∧ tz Dn ((σ.set i (some v)).set j (some w)) H1) : tSeq (tPar i j tr) tz Dn σ H := h
theorem s_parM {i j : Nat} (h : tr σ H fun vs H1 => ∃ v w, vs = [v, w] ∧ Dn.nx ((σ.set i (some v)).set j (some w)) H1) : tPar i j tr Dn σ H := h
theorem c_cons {R : List V → Hp → Prop} (h : te σ H fun x H1 => tr σ H1 fun xs H2 => R (x :: xs) H2) : tCons te tr σ H R := h
theorem c_nil {R : List V → Hp → Prop} (h : R [] H) : tNil σ H R := h
theorem c_cb {r : List V → Hp → VK → Prop} (h : tr σ H fun vs H1 => r vs H1 Q) : tCB r tr σ H Q := h
theorem c_op {r : R2} (h : te σ H fun x H1 => ta σ H1 fun y H2 => r x y H2 Q) : tOp r te ta σ H Q := h
theorem c_call {sp : Sp} {E : XK} (h : tr σ H fun vs H1 => sp vs H1 Q E) : tCall sp [] E tr σ H Q := by
  show tr σ H fun vs H1 => sp (vs ++ []) H1 Q E
  rw [show (fun vs H1 => sp (vs ++ []) H1 Q E) = fun vs H1 => sp vs H1 Q E from by funext vs H1; rw [List.append_nil]]
  exact h
theorem q_asgM {g : TG} (h : te σ H fun x H1 => g x σ H1 (tz Dn)) : tSeq (tAsg te g) tz Dn σ H := h
theorem s_asgM {g : TG} (h : te σ H fun x H1 => g x σ H1 Dn.nx) : tAsg te g Dn σ H := h
theorem q_dropM (h : te σ H fun _ H1 => tz Dn σ H1) : tSeq (tDrop te) tz Dn σ H := h
theorem s_dropM (h : te σ H fun _ H1 => Dn.nx σ H1) : tDrop te Dn σ H := h
theorem s_retM (h : te σ H Dn.rt) : tRet te Dn σ H := h
theorem c_bm {K : PySem.W.Frag} {T : String} {r : V → List V → Hp → VK → Prop} (h : te σ H fun x H1 => tyV K T x H1 ∧ tr σ H1 fun xs H2 => r x xs H2 Q) : tBM K T r te tr σ H Q := h
end
end WT
/-! Toolkit 9: enumerate of a list; a list drawn first; permutations. -/
namespace WT
open PySem PySem.Spec PyProof.Rows L2 Evl
section
variable {K : PySem.W.Frag} {σ : L2.St} {H H' : Hp} {ta tb tc te tl : TE} {tr : TA} {t u tt : TT} {d e : PyData} {ds es : List PyData} {v x y : V} {g : TG} {tu tz : TS} {Dn : Ends}
/-- for i, x in enumerate(xs), xs a list that stands -/
theorem s_forEnL {i j : Nat} {a : Addr} {xs : List V} (h : Ev tl σ H (.ref a)) (hx : SqL K H a xs) (k : ∀ H1, Ex H H1 → ∃ Pv : Nat → L2.St → Hp → Prop, Pv 0 σ H1 ∧ (∀ n σ' H', Pv n σ' H' → SqL K H' a xs) ∧
    (∀ n x σ' H' H'', xs[n]? = some x → Ex H' H'' → Pv n σ' H' → tu { Dn with nx := Pv (n + 1), ct := Pv (n + 1), bk := Dn.nx } ((σ'.set i (some (.int (n : Int)))).set j (some x)) H'') ∧
    ∀ σ' H', Pv xs.length σ' H' → Dn.nx σ' H') : tFor (iEnum K (tCons tl tNil)) (g2 K i j) tu Dn σ H :=
  h H (Ex.refl H) _ fun H1 e => by
    obtain ⟨Pv, h0, hT, hb, hd⟩ := k H1 e
    refine ⟨a, xs, rfl, ex_l e hx, for_it (walk_enum (xs := xs)) Pv h0 (fun n σ' H' _ p => hT n σ' H' p) (fun n v σ' H' H'' hn p hy => ?_) hd⟩
    obtain ⟨T, x, y, rfl, hT0, rfl, ex, ey⟩ := hy
    cases (Option.some.inj ex)
    exact g2_pair upd_same (hb n y σ' H' _ ey (Ex.new hT0) p)
theorem q_forEnL {i j : Nat} {a : Addr} {xs : List V} (h : Ev tl σ H (.ref a)) (hx : SqL K H a xs) (k : ∀ H1, Ex H H1 → ∃ Pv : Nat → L2.St → Hp → Prop, Pv 0 σ H1 ∧ (∀ n σ' H', Pv n σ' H' → SqL K H' a xs) ∧
    (∀ n x σ' H' H'', xs[n]? = some x → Ex H' H'' → Pv n σ' H' → tu { Dn with nx := Pv (n + 1), ct := Pv (n + 1), bk := tz Dn } ((σ'.set i (some (.int (n : Int)))).set j (some x)) H'') ∧
    ∀ σ' H', Pv xs.length σ' H' → tz Dn σ' H') : tSeq (tFor (iEnum K (tCons tl tNil)) (g2 K i j) tu) tz Dn σ H := s_forEnL (Dn := { Dn with nx := tz Dn }) h hx k
/-- a comprehension over a list that is made first -/
theorem c_lcList {vs : List Nat} {Q : VK} (h : tl σ H fun x H1 => ∃ a, x = .ref a ∧ tLc (iList K (tC (.ref a))) g tt te vs σ H1 Q) : tLc (iList K tl) g tt te vs σ H Q := by
  unfold tLc iList at h ⊢
  have e : (fun (x : V) (H1 : Hp) => ∃ a, x = V.ref a ∧ tC (.ref a) σ H1 fun x H1 => ∃ a, x = .ref a ∧ (∃ xs, SqL K H1 a xs) ∧ ∀ D, H1 D = none → ∃ W : Nat → Nat → Hp → Prop, (∃ m, W 0 m (upd H1 D (.lst []))) ∧ ∀ i m H, W i m H →
      ((Itl K a).stop i H ∧ Q (.ref D) H) ∨ ((Itl K a).go i H ∧ ∃ Nx : Hp → Prop, (∀ H', Nx H' → ∃ m', m' < m ∧ W (i + 1) m' H') ∧ ∀ x H', (Itl K a).yld i H x H' → g x (wipe σ vs) H' fun σ2 H2 => wipe σ2 vs = wipe σ vs ∧ tt σ2 H2 fun b H3 =>
        if b = true then te σ2 H3 fun y H4 => ∃ acc, H4 D = some (.lst acc) ∧ acc.length < sizeLine ∧ Nx (upd H4 D (.lst (acc ++ [y]))) else Nx H3)) =
    fun (x : V) (H1 : Hp) => ∃ a, x = .ref a ∧ (∃ xs, SqL K H1 a xs) ∧ ∀ D, H1 D = none → ∃ W : Nat → Nat → Hp → Prop, (∃ m, W 0 m (upd H1 D (.lst []))) ∧ ∀ i m H, W i m H →
      ((Itl K a).stop i H ∧ Q (.ref D) H) ∨ ((Itl K a).go i H ∧ ∃ Nx : Hp → Prop, (∀ H', Nx H' → ∃ m', m' < m ∧ W (i + 1) m' H') ∧ ∀ x H', (Itl K a).yld i H x H' → g x (wipe σ vs) H' fun σ2 H2 => wipe σ2 vs = wipe σ vs ∧ tt σ2 H2 fun b H3 =>
        if b = true then te σ2 H3 fun y H4 => ∃ acc, H4 D = some (.lst acc) ∧ acc.length < sizeLine ∧ Nx (upd H4 D (.lst (acc ++ [y]))) else Nx H3) := by
    funext x H1
    refine propext ⟨?_, ?_⟩
    · rintro ⟨a, rfl, b, hb, k⟩
      cases hb
      exact ⟨a, rfl, k⟩
    · rintro ⟨a, rfl, k⟩
      exact ⟨a, rfl, a, rfl, k⟩
  rw [e] at h
  exact h
theorem fzl_erase {ds : List PyData} {xs : List V} (h : FzL K H ds xs) (k : Nat) : FzL K H (ds.eraseIdx k) (xs.eraseIdx k) := by
  rw [List.eraseIdx_eq_take_drop_succ, List.eraseIdx_eq_take_drop_succ]
  exact fzl_append (fzl_take k h) (fzl_drop (k + 1) h)
end
theorem erase_perm {α : Type} : ∀ {l : List α} {k : Nat} {x : α}, l[k]? = some x → (x :: l.eraseIdx k).Perm l
  | [], _, _, h => by simp at h
  | y :: l, 0, x, h => by
    cases (Option.some.inj h)
    exact .refl _
  | y :: l, k + 1, x, h => (List.Perm.swap y x _).trans ((erase_perm (l := l) (k := k) (by simpa using h)).cons y)
/-- unlike naturals below m are at most m -/
theorem nd_le : ∀ {m : Nat} {l : List Nat}, l.Nodup → (∀ x ∈ l, x < m) → l.length ≤ m
  | 0, [], _, _ => Nat.le_refl _
  | 0, x :: _, _, h => absurd (h x List.mem_cons_self) (Nat.not_lt_zero _)
  | m + 1, l, nd, h => by
    by_cases hm : m ∈ l
    · have h1 := nd_le (m := m) (l := l.erase m) (nd.erase m) fun x hx => by
        have h2 := h x (List.mem_of_mem_erase hx)
        have h3 : x ≠ m := (nd.mem_erase_iff.mp hx).1
        omega
      rw [List.length_erase_of_mem hm] at h1
      omega
    · have h1 := nd_le (m := m) (l := l) nd fun x hx => by
        have h2 := h x hx
        have h3 : x ≠ m := fun z => hm (z ▸ hx)
        omega
      omega
/-- unlike naturals below m, m of them, are all of them -/
theorem perm_of {m : Nat} {l : List Nat} (nd : l.Nodup) (h : ∀ x ∈ l, x < m) (hl : l.length = m) : l.Perm (List.range m) := by
  refine (List.perm_ext_iff_of_nodup nd List.nodup_range).mpr fun x => ⟨fun hx => List.mem_range.mpr (h x hx), fun hx => ?_⟩
  by_cases hm : x ∈ l
  · exact hm
  · have h1 := nd_le (m := m) (l := x :: l) (List.nodup_cons.mpr ⟨hm, nd⟩) fun y hy => by
      rcases List.mem_cons.mp hy with z | z
      · exact z ▸ List.mem_range.mp hx
      · exact h y z
    rw [List.length_cons] at h1
    omega
section
variable {K : PySem.W.Frag} {σ : L2.St} {H : Hp} {te : TE} {tr : TA} {tz : TS} {Dn : Ends} {Q : VK}
/-! what a part gives, said once for all that follows -/
theorem c_consX {P : V → Hp → Prop} {R : List V → Hp → Prop} (h : ∀ Q : VK, (∀ v H2, P v H2 → Q v H2) → te σ H Q) (k : ∀ v H2, P v H2 → tr σ H2 fun xs H3 => R (v :: xs) H3) : tCons te tr σ H R := h _ k
theorem q_asgMX {i : Nat} {P : V → Hp → Prop} (h : ∀ Q : VK, (∀ v H2, P v H2 → Q v H2) → te σ H Q) (k : ∀ v H2, P v H2 → tz Dn (σ.set i (some v)) H2) : tSeq (tAsg te (gName i)) tz Dn σ H := h _ k
theorem q_tupM {g : TG} (h : tr σ H fun vs H1 => vs.length ≤ sizeLine ∧ ∀ p, H1 p = none → g (.ref p) σ (upd H1 p (.tup vs)) (tz Dn)) : tSeq (tAsg (tTup tr) g) tz Dn σ H := h
theorem c_I0 {g : Int → Int → V} {i j : Int} {z : V} (e : g i j = z) (h : Q z H) : rI0 g (.int i) (.int j) H Q := ⟨i, j, rfl, rfl, e ▸ h⟩
theorem q_ifMX {tu tw : TS} {t : TT} (J : Hp → Prop) (h : ∀ Nx : L2.St → Hp → Prop, (∀ H2, J H2 → Nx σ H2) → t σ H fun b H1 => if b = true then tu { Dn with nx := Nx } σ H1 else tw { Dn with nx := Nx } σ H1) (k : ∀ H1, J H1 → tz Dn σ H1) : tSeq (tIfS t tu tw) tz Dn σ H := h _ k
theorem c_test {R : Bool → Hp → Prop} (h : te σ H fun v H1 => ∃ b, v = .bl b ∧ R b H1) : tTest te σ H R := h
theorem s_tupM {g : TG} (h : tr σ H fun vs H1 => vs.length ≤ sizeLine ∧ ∀ p, H1 p = none → g (.ref p) σ (upd H1 p (.tup vs)) Dn.nx) : tAsg (tTup tr) g Dn σ H := h
theorem c_tupOf (h : tCB (rTupOf K) (tCons te tNil) σ H Q) : te σ H (fun x H1 => tNil σ H1 fun xs H2 => rTupOf K (x :: xs) H2 Q) := h
end
section
variable {K : PySem.W.Frag} {σ : L2.St} {H : Hp} {te : TE} {tr : TA} {tu tz : TS} {Dn : Ends} {Q : VK} {t : TT}
/-- if c: .. ; what is so after it either way -/
theorem q_whenJ {b : Bool} (J : Hp → Prop) (h : EvT t σ H b) (h1 : b = true → ∀ H1, Ex H H1 → ∀ Nx : L2.St → Hp → Prop, (∀ H2, J H2 → Nx σ H2) → tu { Dn with nx := Nx } σ H1) (h2 : b = false → ∀ H1, Ex H H1 → J H1) (k : ∀ H1, J H1 → tz Dn σ H1) :
    tSeq (tIfS t tu tNext) tz Dn σ H := q_when h (fun hb H1 e => h1 hb H1 e _ k) fun hb H1 e => k H1 (h2 hb H1 e)
theorem q_whenX {b : Bool} (J : L2.St → Hp → Prop) (h : EvT t σ H b) (h1 : b = true → ∀ H1, Ex H H1 → ∀ Nx : L2.St → Hp → Prop, (∀ σ2 H2, J σ2 H2 → Nx σ2 H2) → tu { Dn with nx := Nx } σ H1) (h2 : b = false → ∀ H1, Ex H H1 → J σ H1) (k : ∀ σ1 H1, J σ1 H1 → tz Dn σ1 H1) :
    tSeq (tIfS t tu tNext) tz Dn σ H := q_when h (fun hb H1 e => h1 hb H1 e _ k) fun hb H1 e => k σ H1 (h2 hb H1 e)
theorem s_whenX {b : Bool} (J : L2.St → Hp → Prop) (h : EvT t σ H b) (h1 : b = true → ∀ H1, Ex H H1 → ∀ Nx : L2.St → Hp → Prop, (∀ σ2 H2, J σ2 H2 → Nx σ2 H2) → tu { Dn with nx := Nx } σ H1) (h2 : b = false → ∀ H1, Ex H H1 → J σ H1) (k : ∀ σ1 H1, J σ1 H1 → Dn.nx σ1 H1) :
    tIfS t tu tNext Dn σ H := s_when h (fun hb H1 e => h1 hb H1 e _ k) fun hb H1 e => k σ H1 (h2 hb H1 e)
theorem s_whenJ {b : Bool} (J : Hp → Prop) (h : EvT t σ H b) (h1 : b = true → ∀ H1, Ex H H1 → ∀ Nx : L2.St → Hp → Prop, (∀ H2, J H2 → Nx σ H2) → tu { Dn with nx := Nx } σ H1) (h2 : b = false → ∀ H1, Ex H H1 → J H1) (k : ∀ H1, J H1 → Dn.nx σ H1) :
    tIfS t tu tNext Dn σ H := s_when h (fun hb H1 e => h1 hb H1 e _ k) fun hb H1 e => k H1 (h2 hb H1 e)
end
section
variable {K : PySem.W.Frag} {σ : L2.St} {H : Hp} {ta tb te : TE} {v : V}
theorem ev_isN (h : Ev ta σ H v) : Ev (tOp (fun x y H Q => y = .non ∧ Q (.bl (decide (x = .non))) H) ta (tC .non)) σ H (.bl (decide (v = .non))) := fun H1 e Q q => h H1 e _ fun H2 e2 => ⟨rfl, q H2 e2⟩
theorem evl_el {ds : List PyData} {ys : List V} (h : El K te σ H ds) (hx : ∀ H1 xs, FzL K H1 ds xs → xs = ys) : EvL te σ H ys := fun H1 e Q q => h H1 e Q fun p xs H2 hp e2 h2 f => q p H2 hp e2 (by rw [h2, hx H2 xs f])
end
theorem room0 {k : Nat} {A : Around} (h : Room k A) : A.units < cLine := by have := h.un; omega
theorem room64 {k : Nat} {A : Around} (h : Room k A) : A.units + 64 < cLine := by have := h.un; omega
theorem room65 {k : Nat} {A : Around} (h : Room k A) : A.units + 65 < cLine := by have := h.un; omega
/-- data of naturals, and back -/
def gNat : PyData → Nat
  | .int i => i.toNat
  | _ => 0
theorem perm_ints {es rs : List PyData} {L : List Nat} (h : (es ++ rs).Perm (L.map fun n : Nat => PyData.int (n : Int))) : es = (es.map gNat).map (fun n : Nat => PyData.int (n : Int)) ∧ (es.map gNat ++ rs.map gNat).Perm L := by
  have hm : ∀ d ∈ es ++ rs, PyData.int ((gNat d : Nat) : Int) = d := fun d hd => by
    obtain ⟨n, _, rfl⟩ := List.mem_map.mp (h.subset hd)
    rfl
  refine ⟨?_, ?_⟩
  · rw [List.map_map]
    have : es.map ((fun n : Nat => PyData.int (n : Int)) ∘ gNat) = es.map id := List.map_congr_left fun d hd => hm d (List.mem_append_left _ hd)
    rw [this, List.map_id]
  · have h1 := h.map gNat
    rw [List.map_append, List.map_map] at h1
    have : L.map (gNat ∘ fun n : Nat => PyData.int (n : Int)) = L.map id := List.map_congr_left fun n _ => rfl
    rw [this, List.map_id] at h1
    exact h1
/-- a ring of places, each sent to the next -/
theorem cyc_perm {m : Nat} {ring F : List Nat} (nd : ring.Nodup) (hr : ∀ x ∈ ring, x < m) (hF : F.length = m) (h1 : ∀ i a, ring[i]? = some a → F[a]? = ring[(i + 1) % ring.length]?) (h2 : ∀ x, x < m → x ∉ ring → F[x]? = some x) : F.Perm (List.range m) := by
  have nx : ∀ i a, ring[i]? = some a → ∃ b, ring[(i + 1) % ring.length]? = some b ∧ F[a]? = some b := fun i a h => by
    have hi := (List.getElem?_eq_some_iff.mp h).1
    have hl : (i + 1) % ring.length < ring.length := Nat.mod_lt _ (by omega)
    exact ⟨_, List.getElem?_eq_getElem hl, by rw [h1 i a h, List.getElem?_eq_getElem hl]⟩
  refine perm_of ?_ ?_ hF
  · refine List.pairwise_iff_getElem.mpr fun i j hi0 hj hij e0 => ?_
    have e : F[i]? = F[j]? := by rw [List.getElem?_eq_getElem hi0, List.getElem?_eq_getElem hj, e0]
    by_cases hi : i ∈ ring
    · obtain ⟨a, ha⟩ := List.getElem?_of_mem hi
      obtain ⟨b, hb, hFb⟩ := nx a i ha
      by_cases hj2 : j ∈ ring
      · obtain ⟨c, hc⟩ := List.getElem?_of_mem hj2
        obtain ⟨d, hd, hFd⟩ := nx c j hc
        have hal := (List.getElem?_eq_some_iff.mp ha).1
        have hcl := (List.getElem?_eq_some_iff.mp hc).1
        rw [hFb, hFd] at e
        cases (Option.some.inj e)
        have e2 : (a + 1) % ring.length = (c + 1) % ring.length := by
          have p1 := (List.getElem?_eq_some_iff.mp hb).1
          exact (List.getElem?_inj p1 nd).mp (by rw [hb, hd])
        have e3 : a = c := by
          rcases Nat.lt_or_ge (a + 1) ring.length with q1 | q1
          · rcases Nat.lt_or_ge (c + 1) ring.length with q2 | q2
            · rw [Nat.mod_eq_of_lt q1, Nat.mod_eq_of_lt q2] at e2
              omega
            · have : c + 1 = ring.length := by omega
              rw [Nat.mod_eq_of_lt q1, this, Nat.mod_self] at e2
              omega
          · have : a + 1 = ring.length := by omega
            rw [this, Nat.mod_self] at e2
            rcases Nat.lt_or_ge (c + 1) ring.length with q2 | q2
            · rw [Nat.mod_eq_of_lt q2] at e2
              omega
            · omega
        subst e3
        rw [ha] at hc
        have := Option.some.inj hc
        omega
      · rw [hFb, h2 j (by omega) hj2] at e
        cases (Option.some.inj e)
        exact hj2 (List.mem_of_getElem? hb)
    · rw [h2 i (by omega) hi] at e
      by_cases hj2 : j ∈ ring
      · obtain ⟨c, hc⟩ := List.getElem?_of_mem hj2
        obtain ⟨d, hd, hFd⟩ := nx c j hc
        rw [hFd] at e
        cases (Option.some.inj e)
        exact hi (List.mem_of_getElem? hd)
      · rw [h2 j (by omega) hj2] at e
        have := Option.some.inj e
        omega
  · intro x hx
    obtain ⟨a, ha⟩ := List.getElem?_of_mem hx
    have hal := (List.getElem?_eq_some_iff.mp ha).1
    by_cases hm : a ∈ ring
    · obtain ⟨c, hc⟩ := List.getElem?_of_mem hm
      obtain ⟨d, hd, hFd⟩ := nx c a hc
      rw [ha] at hFd
      cases (Option.some.inj hFd)
      exact hr _ (List.mem_of_getElem? hd)
    · rw [h2 a (by omega) hm] at ha
      have := Option.some.inj ha
      omega
/-! two rows swapped -/
theorem RowsL.setRef {K : PySem.W.Frag} {H : Hp} {q : Addr} {r : List PyData} : ∀ {ps : List Addr} {rss : List (List PyData)} (i : Nat), RowsL K H ps rss → (∃ xs, H q = some (.lst xs) ∧ FzL K H r xs) → RowsL K H (ps.set i q) (rss.set i r)
  | [], _, _, h, _ => by
    rw [show _ = [] from h]
    exact rfl
  | z :: ps, _, 0, ⟨r', rt, h, _, h2⟩, k => by
    rw [h]
    exact ⟨r, rt, rfl, k, h2⟩
  | z :: ps, _, i + 1, ⟨r', rt, h, h1, h2⟩, k => by
    rw [h]
    exact ⟨r', rt.set i r, rfl, h1, RowsL.setRef i h2 k⟩
theorem swap_get {α : Type} {l : List α} {a b : Nat} {x y : α} (hx : l[a]? = some x) (hy : l[b]? = some y) (i : Nat) : ((l.set a y).set b x)[i]? = l[if i = b then a else if i = a then b else i]? := by
  have ha := (List.getElem?_eq_some_iff.mp hx).1
  have hb := (List.getElem?_eq_some_iff.mp hy).1
  rw [List.getElem?_set]
  by_cases h1 : b = i
  · subst h1
    rw [if_pos rfl, if_pos rfl, List.length_set, if_pos hb, hx]
  · rw [if_neg h1, List.getElem?_set, if_neg (show ¬ i = b from fun z => h1 z.symm)]
    by_cases h2 : a = i
    · subst h2
      rw [if_pos rfl, if_pos rfl, if_pos ha, hy]
    · rw [if_neg h2, if_neg (show ¬ i = a from fun z => h2 z.symm)]
theorem swap_nd {α : Type} {l : List α} {a b : Nat} {x y : α} (nd : l.Nodup) (hx : l[a]? = some x) (hy : l[b]? = some y) : ((l.set a y).set b x).Nodup := by
  refine List.pairwise_iff_getElem.mpr fun i j hi hj hij e0 => ?_
  have e : ((l.set a y).set b x)[i]? = ((l.set a y).set b x)[j]? := by rw [List.getElem?_eq_getElem hi, List.getElem?_eq_getElem hj, e0]
  rw [swap_get hx hy, swap_get hx hy] at e
  rw [List.length_set, List.length_set] at hi hj
  have ha := (List.getElem?_eq_some_iff.mp hx).1
  have hb := (List.getElem?_eq_some_iff.mp hy).1
  have hlt : (if i = b then a else if i = a then b else i) < l.length := by
    split
    · exact ha
    · split
      · exact hb
      · exact hi
  have h := (List.getElem?_inj hlt nd).mp e
  split at h <;> split at h <;> (try split at h) <;> (try split at h) <;> omega
theorem swap_mem {α : Type} {l : List α} {a b : Nat} {x y z : α} (hx : l[a]? = some x) (hy : l[b]? = some y) (h : z ∈ (l.set a y).set b x) : z ∈ l := by
  rcases List.mem_or_eq_of_mem_set h with h | h
  · rcases List.mem_or_eq_of_mem_set h with h | h
    · exact h
    · exact h ▸ List.mem_of_getElem? hy
  · exact h ▸ List.mem_of_getElem? hx
end WT
/-! Squares of marks, and what is moved. -/
namespace WT
open PySem PySem.Spec PyProof.Rows L2 Evl
def at2 (M : List (List Nat)) (i j : Nat) : Nat := (M.getD i []).getD j 0
structure Sq (k : Nat) (M : List (List Nat)) : Prop where
  len : M.length = k
  row : ∀ r ∈ M, r.length = k
def rNs (r : List Nat) : List PyData := r.map fun n : Nat => PyData.int (n : Int)
def rN (F : List (List Nat)) : List (List PyData) := F.map rNs
/-- the square in which the mark of (place i, place j) stands at (p i, p j) -/
def movedN (k : Nat) (M : List (List Nat)) (p : List Nat) : List (List Nat) := (List.range k).map fun a => (List.range k).map fun b => at2 M (p.idxOf a) (p.idxOf b)
theorem Sq.get {k : Nat} {M : List (List Nat)} (h : Sq k M) {i : Nat} (hi : i < k) : ∃ r, M[i]? = some r ∧ r.length = k ∧ M.getD i [] = r := by
  have hl := h.len
  have e : M[i]? = some (M[i]'(by omega)) := List.getElem?_eq_getElem _
  exact ⟨_, e, h.row _ (List.mem_of_getElem? e), by rw [List.getD_eq_getElem?_getD, e]; rfl⟩
theorem Sq.at {k : Nat} {M : List (List Nat)} (h : Sq k M) {i j : Nat} {r : List Nat} (hr : M[i]? = some r) (hj : j < k) : r[j]? = some (at2 M i j) := by
  have hrl := h.row r (List.mem_of_getElem? hr)
  unfold at2
  rw [List.getD_eq_getElem?_getD, List.getD_eq_getElem?_getD, hr, Option.getD_some, List.getElem?_eq_getElem (by omega : j < r.length)]
  rfl
theorem sq_ext {k : Nat} {M N : List (List Nat)} (h : Sq k M) (g : Sq k N) (e : ∀ i j, i < k → j < k → at2 M i j = at2 N i j) : M = N := by
  refine List.ext_getElem? fun i => ?_
  by_cases hi : i < k
  · obtain ⟨r, hr, hrl, _⟩ := h.get hi
    obtain ⟨s, hs, hsl, _⟩ := g.get hi
    rw [hr, hs]
    congr 1
    refine List.ext_getElem? fun j => ?_
    by_cases hj : j < k
    · rw [h.at hr hj, g.at hs hj, e i j hi hj]
    · rw [List.getElem?_eq_none (by omega), List.getElem?_eq_none (by omega)]
  · have h1 := h.len
    have g1 := g.len
    rw [List.getElem?_eq_none (by omega), List.getElem?_eq_none (by omega)]
theorem at2_tab {k : Nat} {f : Nat → Nat → Nat} {a b : Nat} (ha : a < k) (hb : b < k) : at2 ((List.range k).map fun a => (List.range k).map fun b => f a b) a b = f a b := by
  unfold at2
  simp [List.getD_eq_getElem?_getD, ha, hb]
theorem sq_tab {k : Nat} {f : Nat → Nat → Nat} : Sq k ((List.range k).map fun a => (List.range k).map fun b => f a b) := by
  refine ⟨by simp, fun r hr => ?_⟩
  obtain ⟨a, _, rfl⟩ := List.mem_map.mp hr
  simp
theorem moved_sq {k : Nat} {M : List (List Nat)} {p : List Nat} : Sq k (movedN k M p) := sq_tab
theorem perm_lt {k : Nat} {p : List Nat} (h : p.Perm (List.range k)) {i : Nat} {x : Nat} (e : p[i]? = some x) : x < k := List.mem_range.mp (h.subset (List.mem_of_getElem? e))
theorem perm_nd {k : Nat} {p : List Nat} (h : p.Perm (List.range k)) : p.Nodup := h.nodup_iff.mpr List.nodup_range
theorem perm_len {k : Nat} {p : List Nat} (h : p.Perm (List.range k)) : p.length = k := by rw [h.length_eq, List.length_range]
theorem idx_of_get {p : List Nat} (nd : p.Nodup) {i x : Nat} (e : p[i]? = some x) : p.idxOf x = i := by
  obtain ⟨hi, hx⟩ := List.getElem?_eq_some_iff.mp e
  rw [← hx]
  exact nd.idxOf_getElem i hi
theorem get_idx {p : List Nat} {x : Nat} (h : x ∈ p) : p[p.idxOf x]? = some x := by
  have hl := List.idxOf_lt_length_iff.mpr h
  rw [List.getElem?_eq_getElem hl, List.getElem_idxOf hl]
theorem moved_at {k : Nat} {M : List (List Nat)} {p : List Nat} (hp : p.Perm (List.range k)) {i j a b : Nat} (ha : p[i]? = some a) (hb : p[j]? = some b) : at2 (movedN k M p) a b = at2 M i j := by
  unfold movedN
  rw [at2_tab (perm_lt hp ha) (perm_lt hp hb), idx_of_get (perm_nd hp) ha, idx_of_get (perm_nd hp) hb]
/-- a square is what is moved when it has the marks -/
theorem moved_of {k : Nat} {M N : List (List Nat)} {p : List Nat} (hp : p.Perm (List.range k)) (hN : Sq k N) (h : ∀ i j a b, p[i]? = some a → p[j]? = some b → at2 N a b = at2 M i j) : movedN k M p = N := by
  refine sq_ext moved_sq hN fun a b ha hb => ?_
  have h1 := get_idx (hp.mem_iff.mpr (List.mem_range.mpr ha))
  have h2 := get_idx (hp.mem_iff.mpr (List.mem_range.mpr hb))
  rw [moved_at hp h1 h2, h _ _ _ _ h1 h2]
theorem at2_set {k : Nat} {F : List (List Nat)} (h : Sq k F) {a b x : Nat} {r : List Nat} (hr : F[a]? = some r) (hb : b < k) (c d : Nat) : at2 (F.set a (r.set b x)) c d = if c = a ∧ d = b then x else at2 F c d := by
  have ha := (List.getElem?_eq_some_iff.mp hr).1
  have hrl := h.row r (List.mem_of_getElem? hr)
  unfold at2
  rw [List.getD_eq_getElem?_getD, List.getD_eq_getElem?_getD, List.getD_eq_getElem?_getD, List.getD_eq_getElem?_getD, List.getElem?_set]
  by_cases hc : c = a
  · subst hc
    rw [if_pos rfl, if_pos ha, Option.getD_some, List.getElem?_set, hr, Option.getD_some]
    by_cases hd : d = b
    · subst hd
      rw [if_pos rfl, if_pos (by omega), if_pos ⟨rfl, rfl⟩, Option.getD_some]
    · rw [if_neg (fun z => hd z.symm), if_neg (fun z => hd z.2)]
  · rw [if_neg (fun z => hc z.symm), if_neg (fun z => hc z.1)]
theorem sq_set {k : Nat} {F : List (List Nat)} (h : Sq k F) {a b x : Nat} {r : List Nat} (hr : F[a]? = some r) : Sq k (F.set a (r.set b x)) := by
  refine ⟨by rw [List.length_set, h.len], fun s hs => ?_⟩
  rcases List.mem_or_eq_of_mem_set hs with z | z
  · exact h.row s z
  · rw [z, List.length_set]
    exact h.row r (List.mem_of_getElem? hr)
theorem rN_set {F : List (List Nat)} {a b x : Nat} {r : List Nat} : (rN F).set a ((rNs r).set b (.int (x : Int))) = rN (F.set a (r.set b x)) := by
  unfold rN rNs
  rw [List.map_set, List.map_set]
theorem rN_get {F : List (List Nat)} {a : Nat} {r : List Nat} (h : F[a]? = some r) : (rN F)[a]? = some (rNs r) := by
  unfold rN
  rw [List.getElem?_map, h]
  rfl
theorem sq_zero {k : Nat} : Sq k (List.replicate k (List.replicate k 0)) := ⟨by simp, fun r hr => by rw [List.eq_of_mem_replicate hr]; simp⟩
theorem tNN_rN {F : List (List Nat)} : tNN F = .tuple ((rN F).map PyData.tuple) := by
  unfold tNN rN
  rw [List.map_map]
  rfl
end WT
/-! The text of the law by places; the draws. -/
namespace WT
open PySem PySem.Spec PyProof.Rows L2 Evl
def top (i : Nat) : Stmt := PySem.Challenge.pw_whicheverturning_k14_whole_pictures_that.main.body.getD i (.Pass ⟨0, 0, 0, 0⟩)
abbrev s_law_pot : Stmt := top 23
abbrev N_law_pot : List Str := ["script", "place", "cell", "own", "small"]
theorem sc_law_pot : FnScope N_law_pot ["script", "place"] (defScope s_law_pot) := ⟨rfl, rfl, rfl, by decide +kernel, rfl, by decide +kernel, by decide +kernel⟩
abbrev s_law_take : Stmt := top 24
abbrev N_law_take : List Str := ["pot", "upto", "digit", "prime", "blend"]
theorem sc_law_take : FnScope N_law_take ["pot", "upto"] (defScope s_law_take) := ⟨rfl, rfl, rfl, by decide +kernel, rfl, by decide +kernel, by decide +kernel⟩
abbrev s_law_cells : Stmt := top 25
abbrev N_law_cells : List Str := ["script", "most"]
theorem sc_law_cells : FnScope N_law_cells ["script", "most"] (defScope s_law_cells) := ⟨rfl, rfl, rfl, by decide +kernel, rfl, by decide +kernel, by decide +kernel⟩
abbrev s_law_some : Stmt := top 26
abbrev N_law_some : List Str := ["pot", "pool", "many", "rests", "found", "lap"]
theorem sc_law_some : FnScope N_law_some ["pot", "pool", "many"] (defScope s_law_some) := ⟨rfl, rfl, rfl, by decide +kernel, rfl, by decide +kernel, by decide +kernel⟩
abbrev s_law_is_bool : Stmt := top 27
abbrev N_law_is_bool : List Str := ["told", "due"]
theorem sc_law_is_bool : FnScope N_law_is_bool ["told", "due"] (defScope s_law_is_bool) := ⟨rfl, rfl, rfl, by decide +kernel, rfl, by decide +kernel, by decide +kernel⟩
/-- the built-in names that the text has not taken -/
structure Bt (mg : Str → Option Value) : Prop where
  len : mg "len" = none
  range : mg "range" = none
  tuple : mg "tuple" = none
  list : mg "list" = none
  int : mg "int" = none
  abs : mg "abs" = none
  sum : mg "sum" = none
  max : mg "max" = none
  min : mg "min" = none
  all : mg "all" = none
  enumerate : mg "enumerate" = none
  zip : mg "zip" = none
  isinstance : mg "isinstance" = none
  repr : mg "repr" = none
  bool : mg "bool" = none
  str : mg "str" = none
  set : mg "set" = none
/-! ### the pot -/
/-- the pot: what is left of the cell's own digits, the mixed number, how many were taken (at most n) -/
def PotAt (H : Hp) (p : Addr) (n : Nat) : Prop := ∃ a b c : Int, H p = some (.lst [.int a, .int b, .int c]) ∧ 0 ≤ b ∧ b < 2 ^ 61 ∧ 0 ≤ c ∧ c ≤ n
/-- all but one object is as it was -/
def But (p : Addr) (H H' : Hp) : Prop := ∀ q o, q ≠ p → H q = some o → H' q = some o
theorem But.refl (p : Addr) (H : Hp) : But p H H := fun _ _ _ h => h
theorem But.trans {p : Addr} {H H1 H2 : Hp} (a : But p H H1) (b : But p H1 H2) : But p H H2 := fun q o n h => b q o n (a q o n h)
theorem But.of {p : Addr} {H H' : Hp} (e : Ex H H') : But p H H' := fun q o _ h => e q o h
theorem But.put {p : Addr} {H : Hp} {o : HO} : But p H (upd H p o) := fun q u n h => by rw [upd_ne n]; exact h
theorem PotAt.ex {H H' : Hp} {p : Addr} {n : Nat} (h : PotAt H p n) (e : Ex H H') : PotAt H' p n := by
  obtain ⟨a, b, c, h1, h2⟩ := h
  exact ⟨a, b, c, e _ _ h1, h2⟩
theorem PotAt.le {H : Hp} {p : Addr} {n m : Nat} (h : PotAt H p n) (e : n ≤ m) : PotAt H p m := by
  obtain ⟨a, b, c, h1, h2, h3, h4, h5⟩ := h
  exact ⟨a, b, c, h1, h2, h3, h4, by omega⟩
theorem PotAt.but {H H' : Hp} {p q : Addr} {n : Nat} (h : PotAt H p n) (e : But q H H') (hn : p ≠ q) : PotAt H' p n := by
  obtain ⟨a, b, c, h1, h2⟩ := h
  exact ⟨a, b, c, e _ _ hn h1, h2⟩
theorem tex_but {p : Addr} {H H' : Hp} {xs : List V} (e : But p H H') (h : H p = some (.lst xs)) : TEx H H' := fun a ys r => by
  have n : a ≠ p := fun z => by
    subst z
    rcases r with r | ⟨q, r⟩ <;> rw [h] at r <;> cases r
  rcases r with r | ⟨q, r⟩
  · exact .inl (e _ _ n r)
  · exact .inr ⟨q, e _ _ n r⟩
theorem PotAt.tex {p : Addr} {H H' : Hp} {n : Nat} (h : PotAt H p n) (e : But p H H') : TEx H H' := by
  obtain ⟨a, b, c, h1, _⟩ := h
  exact tex_but e h1
/-- fresh ahead is fresh before -/
theorem But.fresh {p q : Addr} {H H' : Hp} (e : But p H H') (h : H' q = none) (n : q ≠ p) : H q = none := by
  cases z : H q with
  | none => rfl
  | some o =>
    rw [e q o n z] at h
    cases h
def spPot (K : PySem.W.Frag) : Sp := fun vs H Q _ => ∃ (a : Addr) (ns : List Int) (i : Nat), vs = [.ref a, .int (i : Int)] ∧ SqL K H a (ns.map V.int) ∧ ns.length ≤ 63 ∧ i < 1000 ∧ ∀ p H', H p = none → Ex H H' → PotAt H' p 0 → Q (.ref p) H'
def spTake : Sp := fun vs H Q _ => ∃ (p : Addr) (n u : Nat), vs = [.ref p, .int (u : Int)] ∧ PotAt H p n ∧ n < 1000000 ∧ 0 < u ∧ u < 1073741824 ∧ ∀ (d : Nat) H', d < u → But p H H' → PotAt H' p (n + 1) → Q (.int (d : Int)) H'
section
variable {P : Program} {w : World} {K : PySem.W.Frag} {mg : Str → Option Value} {base : Heap}
theorem bits_le {i : Int} {n : Nat} (h : i.natAbs < 2 ^ n) (hn : 0 < n) : Builtin.Int.intBits i ≤ n := by
  unfold Builtin.Int.intBits
  split
  · exact Nat.zero_le _
  · have := PySem.Flt.log2_lt_of hn h
    omega
theorem ok_pot (B : Bt mg) (d : DefIn K mg "_law_pot" ["script", "place"] s_law_pot) : Okd P w K mg base "_law_pot" ["script", "place"] s_law_pot 1 (spPot K) := by
  refine Okd.mk d sc_law_pot (fun vs H Q E h => ?_) (fun f cdv A outer s H vs Q E hr h => ?_)
  · obtain ⟨a, ns, i, rfl, _⟩ := h
    rfl
  · obtain ⟨a, ns, i, rfl, hS, hl, hi, k⟩ := h
    refine ⟨_, (pss_cons (ps_set (i := 2) sc_law_pot.nd rfl (Or.inl rfl) (pe_ifExp (pt_cmpR op_lt (pv 1) (pe_callB call_len_seq (by rfl) B.len boot_len (pa_cons (pv 0) pa_nil)) (nomark _)) (pe_ix ix_list (pv 0) (pv 1) (fun _ _ => rfl)) (pe_op op_add (pe_op op_add (pe_op op_mod (pe_callTy call_int1 (by rfl) B.int boot_int (pa_cons (pe_callB (cr_sum rfl) (by rfl) B.sum boot_sum (pa_cons (pe_slice sl_list (pv 0) po_none (po_some pe_int)) pa_nil)) pa_nil)) pe_int) (pe_op op_mul pe_int (pv 1))) pe_int)))
      (pss_cons (ps_set (i := 3) sc_law_pot.nd rfl (Or.inl rfl) (pe_op op_mul (pe_op op_mod (pe_callTy call_int1 (by rfl) B.int boot_int (pa_cons (pe_callB call_abs (by rfl) B.abs boot_abs (pa_cons (pv 2) pa_nil)) pa_nil)) (pe_op op_powW (pe_op op_powW pe_int pe_int) pe_int)) (pe_callTy call_int1 (by rfl) B.int boot_int (pa_cons (pe_cmpR op_ge (pe_callB call_abs (by rfl) B.abs boot_abs (pa_cons (pv 2) pa_nil)) (pe_op op_powW pe_int pe_int) (nomark _)) pa_nil))))
      (pss_cons (ps_set (i := 4) sc_law_pot.nd rfl (Or.inl rfl) (pe_op op_mod (pe_callTy call_int1 (by rfl) B.int boot_int (pa_cons (pv 2) pa_nil)) pe_int))
      (pss_one (ps_ret (pe_lst (pa_cons (pv 3) (pa_cons (pe_op op_mod (pe_callTy call_int1 (by rfl) B.int boot_int (pa_cons (pe_op op_add (pe_op op_add (pe_op op_mul (pv 4) pe_int) (pe_op op_mul (pe_op op_mul pe_int (pv 1)) (pv 1))) pe_int) pa_nil)) pe_int) (pa_cons pe_int pa_nil))))))))), ?_⟩
    refine q_asgX (P := fun v => ∃ c : Int, v = .int c) ?_ ?_
    · by_cases hp : i < ns.length
      · refine ⟨.int ns[i], ⟨_, rfl⟩, ev_if (b := true) (et_is (et_B (ev_op (ev_var rfl) (ev_len (ev_var rfl) hS) rv_I0)) (by simpa using hp)) (fun _ => ev_op (ev_var rfl) (ev_var rfl) (rv_ixL hS (atI_of (by simp [hp])))) (fun z => nomatch z)⟩
      · exact ⟨_, ⟨_, rfl⟩, ev_if (b := false) (et_is (et_B (ev_op (ev_var rfl) (ev_len (ev_var rfl) hS) rv_I0)) (by simpa using hp)) (fun z => nomatch z) (fun _ => ev_op (ev_op (ev_op (ev_int1 (ev_sumN (el_slice (ev_var rfl) eo_none (eo_some ev_c) hS ints_take))) ev_c (rv_I (by decide))) (ev_op ev_c (ev_var rfl) (rv_I (cMulL (by decide)))) rv_I0) ev_c rv_I0)⟩
    · rintro _ ⟨c, rfl⟩ H1 e1
      refine q_asg ((ev_op (ev_op (ev_int1 (ev_abs (ev_var rfl))) (ev_op (ev_op ev_c ev_c (rv_I ?_)) ev_c (rv_I ?_)) (rv_I ?_)) (ev_intB (ev_op (ev_abs (ev_var rfl)) (ev_op ev_c ev_c (rv_I ?_)) rv_I0)) (rv_I ?_))) fun H2 e2 => ?_
      · exact ⟨by decide, by decide⟩
      · exact ⟨by decide, by decide⟩
      · decide
      · exact ⟨by decide, by decide⟩
      · exact cMulR ((show ∀ z : Bool, -(2 ^ 64) < (if z = true then (1 : Int) else 0) ∧ (if z = true then (1 : Int) else 0) < 2 ^ 64 by decide) _)
      refine q_asg ((ev_op (ev_int1 (ev_var rfl)) ev_c (rv_I ?_))) fun H3 e3 => ?_
      · decide
      have hs0 := Int.emod_nonneg c (show (2305843009213693951 : Int) ≠ 0 by decide)
      have hs1 := Int.emod_lt_of_pos c (show (0 : Int) < 2305843009213693951 by decide)
      refine s_retL (Evl.el_lst (Evl.ea_cons (ev_var rfl) (Evl.ea_cons ((ev_op (ev_int1 (ev_op (ev_op (ev_op (ev_var rfl) ev_c (rv_I ?_)) (ev_op (ev_op ev_c (ev_var rfl) (rv_I ?_)) (ev_var rfl) (rv_I ?_)) rv_I0) ev_c rv_I0)) ev_c (rv_I ?_))) (Evl.ea_cons ev_c Evl.ea_nil))) (show 3 ≤ 100000 by decide)) fun p H4 hp e4 h4 => ?_
      · exact cMulR (by decide)
      · exact cMulL (by decide)
      · exact cMulR (by omega)
      · decide
      refine k p H4 ?_ (((e1.trans e2).trans e3).trans e4) ⟨_, _, _, h4, ?_, ?_, by decide, by decide⟩
      · exact fresh_back ((e1.trans e2).trans e3) hp
      · exact Int.emod_nonneg _ (by decide)
      · exact Int.lt_trans (Int.emod_lt_of_pos _ (by decide)) (by decide)
theorem ok_take (B : Bt mg) (d : DefIn K mg "_law_take" ["pot", "upto"] s_law_take) : Okd P w K mg base "_law_take" ["pot", "upto"] s_law_take 1 spTake := by
  refine Okd.mk d sc_law_take (fun vs H Q E h => ?_) (fun f cdv A outer s H vs Q E hr h => ?_)
  · obtain ⟨p, n, u, rfl, _⟩ := h
    rfl
  · obtain ⟨p, n, u, rfl, ⟨a, b, c, hP, hb0, hb1, hc0, hc1⟩, hn, hu0, hu1, k⟩ := h
    refine ⟨_, (pss_cons (ps_if (pt_cmpR op_gt (pe_ix ix_list (pv 0) pe_int (fun _ _ => rfl)) pe_int (nomark _)) (pss_cons (ps_set (i := 2) sc_law_take.nd rfl (Or.inl rfl) (pe_op op_mod (pe_callTy call_int1 (by rfl) B.int boot_int (pa_cons (pe_ix ix_list (pv 0) pe_int (fun _ _ => rfl)) pa_nil)) (pv 1)))
        (pss_cons (ps_asg (pe_op op_fdiv (pe_ix ix_list (pv 0) pe_int (fun _ _ => rfl)) (pv 1)) (pg_sub (pv 0) pe_int set_list))
        (pss_one (ps_ret (pv 2))))) pss_nil)
      (pss_cons (ps_asg (pe_op op_add (pe_ix ix_list (pv 0) pe_int (fun _ _ => rfl)) pe_int) (pg_sub (pv 0) pe_int set_list))
      (pss_cons (ps_set (i := 3) sc_law_take.nd rfl (Or.inl rfl) (pe_ix ix_list (pe_lst (pa_cons pe_int (pa_cons pe_int (pa_cons pe_int (pa_cons pe_int (pa_cons pe_int pa_nil)))))) (pe_op op_mod (pe_callTy call_int1 (by rfl) B.int boot_int (pa_cons (pe_ix ix_list (pv 0) pe_int (fun _ _ => rfl)) pa_nil)) pe_int) (fun _ _ => rfl)))
      (pss_cons (ps_set (i := 4) sc_law_take.nd rfl (Or.inl rfl) (pe_op op_mod (pe_callTy call_int1 (by rfl) B.int boot_int (pa_cons (pe_op op_powW (pe_callTy call_int1 (by rfl) B.int boot_int (pa_cons (pe_op op_add (pe_op op_add (pe_ix ix_list (pv 0) pe_int (fun _ _ => rfl)) (pe_op op_mul (pe_op op_mul pe_int (pe_ix ix_list (pv 0) pe_int (fun _ _ => rfl))) (pe_ix ix_list (pv 0) pe_int (fun _ _ => rfl)))) pe_int) pa_nil)) pe_int) pa_nil)) (pv 3)))
      (pss_cons (ps_set (i := 4) sc_law_take.nd rfl (Or.inl rfl) (pe_op op_mod (pe_callTy call_int1 (by rfl) B.int boot_int (pa_cons (pe_op op_mul (pv 4) (pe_op op_add (pe_op op_mod (pe_callTy call_int1 (by rfl) B.int boot_int (pa_cons (pv 4) pa_nil)) pe_int) (pe_op op_mul pe_int (pe_ix ix_list (pv 0) pe_int (fun _ _ => rfl))))) pa_nil)) pe_int))
      (pss_one (ps_ret (pe_op op_mod (pe_callTy call_int1 (by rfl) B.int boot_int (pa_cons (pe_op op_fdiv (pv 4) pe_int) pa_nil)) (pv 1))))))))), ?_⟩
    refine q_when (b := decide (a > 0)) (et_B (ev_op (ev_op (ev_var rfl) ev_c (rv_ixL (sq_of hP) rfl)) ev_c rv_I0)) (fun ha H1 e1 => ?_) (fun ha H1 e1 => ?_)
    · have hp1 := e1 _ _ hP
      refine q_asg ((ev_op (ev_int1 (ev_op (ev_var rfl) ev_c (rv_ixL (sq_of hp1) rfl))) (ev_var rfl) (rv_I ?_))) fun H2 e2 => ?_
      · show (0 : Int) < _
        omega
      have hp2 := e2 _ _ hp1
      refine q_setL hp2 ((ev_op (ev_op (ev_var rfl) ev_c (rv_ixL (sq_of hp2) rfl)) (ev_var rfl) (rv_I ?_))) (ev_var rfl) ev_c (show 0 < 3 by decide) fun H3 e3 => ?_
      · exact ⟨by omega, by omega⟩
      refine s_ret (ev_var rfl) fun H4 e4 => ?_
      have z0 : 0 ≤ a % (u : Int) := Int.emod_nonneg _ (by omega)
      have z1 : a % (u : Int) < (u : Int) := Int.emod_lt_of_pos _ (by omega)
      have hd := k (a % (u : Int)).toNat H4 (by omega) (((But.of (e1.trans e2)).trans (But.of e3)).trans ((But.put (o := .lst ([.int (a / (u : Int)), .int b, .int c]))).trans (But.of e4))) ⟨_, b, c, e4 _ _ upd_same, hb0, hb1, hc0, by omega⟩
      rw [Int.toNat_of_nonneg z0] at hd
      exact hd
    · have hp1 := e1 _ _ hP
      refine q_setL hp1 ((ev_op (ev_op (ev_var rfl) ev_c (rv_ixL (sq_of hp1) rfl)) ev_c rv_I0)) (ev_var rfl) ev_c (show 2 < 3 by decide) fun H2 e2 => ?_
      generalize hH3 : upd H2 p (.lst (([.int a, .int b, .int c] : List V).set 2 (.int (c + 1)))) = H3
      have hp3 : H3 p = some (.lst [.int a, .int b, .int (c + 1)]) := by
        rw [← hH3]
        exact upd_same
      have e03 : But p H H3 := by
        rw [← hH3]
        exact ((But.of e1).trans (But.of e2)).trans But.put
      refine q_asgX (P := fun v => ∃ r : Int, v = .int r ∧ 0 < r ∧ r < 2 ^ 31) ?_ ?_
      · have m0 := Int.emod_nonneg (c + 1) (show (5 : Int) ≠ 0 by decide)
        have m1 := Int.emod_lt_of_pos (c + 1) (show (0 : Int) < 5 by decide)
        have hl := fun {σ : L2.St} {H : Hp} => Evl.el_lst (σ := σ) (H := H) (vs := [.int 2147483647, .int 2147483629, .int 2147483587, .int 2147483579, .int 2147483563]) (Evl.ea_cons ev_c (Evl.ea_cons ev_c (Evl.ea_cons ev_c (Evl.ea_cons ev_c (Evl.ea_cons ev_c Evl.ea_nil))))) (by decide)
        rcases (show (c + 1) % 5 = 0 ∨ (c + 1) % 5 = 1 ∨ (c + 1) % 5 = 2 ∨ (c + 1) % 5 = 3 ∨ (c + 1) % 5 = 4 by omega) with z | z | z | z | z
        all_goals refine ⟨_, ⟨_, rfl, ?_, ?_⟩, ev_opL1 hl (fun H1 e => ev_val (ev_op (ev_int1 (ev_op (ev_var rfl) ev_c (rv_ixL (sq_of (e _ _ hp3)) rfl))) ev_c (rv_I ?_)) (congrArg V.int z)) fun q H1 hq _ => rv_ixL (sq_of hq) rfl⟩
        all_goals decide
      · rintro _ ⟨r, rfl, r0, r1⟩ H4 e4
        have hp4 := e4 _ _ hp3
        have hcc : (c + 1) * (c + 1) ≤ 1000001 * 1000001 := Int.mul_le_mul (by omega) (by omega) (by omega) (by decide)
        have hcc0 : 0 ≤ (c + 1) * (c + 1) := Int.mul_nonneg (by omega) (by omega)
        have easc : (91199 : Int) * (c + 1) * (c + 1) = 91199 * ((c + 1) * (c + 1)) := Int.mul_assoc _ _ _
        refine q_asg ((ev_op (ev_int1 (ev_op (ev_int1 (ev_op (ev_op (ev_op (ev_var rfl) ev_c (rv_ixL (sq_of hp4) rfl)) (ev_op (ev_op ev_c (ev_op (ev_var rfl) ev_c (rv_ixL (sq_of hp4) rfl)) (rv_I ?_)) (ev_op (ev_var rfl) ev_c (rv_ixL (sq_of hp4) rfl)) (rv_I ?_)) rv_I0) ev_c rv_I0)) ev_c (rv_I ?_))) (ev_var rfl) (rv_I ?_))) fun H5 e5 => ?_
        · exact cMulL (by decide)
        · exact cMulR ⟨by omega, by omega⟩
        · refine ⟨by decide, ?_⟩
          have hbits := bits_le (i := b + 91199 * (c + 1) * (c + 1) + 2477) (n := 64) (by rw [easc]; omega) (by decide)
          omega
        · exact r0
        generalize hB : (b + 91199 * (c + 1) * (c + 1) + 2477) ^ (3 : Int).toNat % r = bl
        have hb2 : 0 ≤ bl := by
          rw [← hB]
          exact Int.emod_nonneg _ (by omega)
        have hb3 : bl < r := by
          rw [← hB]
          exact Int.emod_lt_of_pos _ r0
        have hp5 := e5 _ _ hp4
        refine q_asg ((ev_op (ev_int1 (ev_op (ev_var rfl) (ev_op (ev_op (ev_int1 (ev_var rfl)) ev_c (rv_I ?_)) (ev_op ev_c (ev_op (ev_var rfl) ev_c (rv_ixL (sq_of hp5) rfl)) (rv_I ?_)) rv_I0) (rv_I ?_))) ev_c (rv_I ?_))) fun H6 e6 => ?_
        · decide
        · exact cMulL (by decide)
        · exact cMulL ⟨by omega, by omega⟩
        · decide
        refine s_ret ((ev_op (ev_int1 (ev_op (ev_var rfl) ev_c (rv_I ?_))) (ev_var rfl) (rv_I ?_))) fun H7 e7 => ?_
        · exact ⟨by decide, by decide⟩
        · show (0 : Int) < _
          omega
        generalize hC : bl * (bl % 12659 + 397 * (c + 1)) % 2305843009213693907 / 211 = q
        have z0 : 0 ≤ q % (u : Int) := Int.emod_nonneg _ (by omega)
        have z1 : q % (u : Int) < (u : Int) := Int.emod_lt_of_pos _ (by omega)
        have hd := k (q % (u : Int)).toNat H7 (by omega) (e03.trans (((But.of e4).trans (But.of e5)).trans ((But.of e6).trans (But.of e7)))) ⟨_, b, _, e7 _ _ (e6 _ _ hp5), hb0, hb1, by omega, by omega⟩
        rw [Int.toNat_of_nonneg z0] at hd
        exact hd
end
end WT
/-! The program's checks, read where they hold. -/
namespace WT
open PySem PySem.Spec PyProof.Rows L2 Evl
abbrev s_is_int : Stmt := top 5
abbrev N_is_int : List Str := ["value", "low", "high"]
theorem sc_is_int : FnScope N_is_int ["value", "low", "high"] (defScope s_is_int) := ⟨rfl, rfl, rfl, by decide +kernel, rfl, by decide +kernel, by decide +kernel⟩
abbrev s_is_position_of : Stmt := top 6
abbrev N_is_position_of : List Str := ["many", "value", "one"]
theorem sc_is_position_of : FnScope N_is_position_of ["many", "value"] (defScope s_is_position_of) := ⟨rfl, rfl, rfl, by decide +kernel, rfl, by decide +kernel, by decide +kernel⟩
abbrev s_is_picture : Stmt := top 12
abbrev N_is_picture : List Str := ["value", "row", "one"]
theorem sc_is_picture : FnScope N_is_picture ["value"] (defScope s_is_picture) := ⟨rfl, rfl, rfl, by decide +kernel, rfl, by decide +kernel, by decide +kernel⟩
abbrev s_look_at_picture : Stmt := top 13
abbrev N_look_at_picture : List Str := ["picture"]
theorem sc_look_at_picture : FnScope N_look_at_picture ["picture"] (defScope s_look_at_picture) := ⟨rfl, rfl, rfl, by decide +kernel, rfl, by decide +kernel, by decide +kernel⟩
abbrev s_look_at_pictures : Stmt := top 19
abbrev N_look_at_pictures : List Str := ["one", "other"]
theorem sc_look_at_pictures : FnScope N_look_at_pictures ["one", "other"] (defScope s_look_at_pictures) := ⟨rfl, rfl, rfl, by decide +kernel, rfl, by decide +kernel, by decide +kernel⟩
/-- what a def answers to arguments of a kind: frozen data -/
def spD (K : PySem.W.Frag) (n : Nat) (R : List Ag → PyData → Prop) : Sp := fun vs H Q _ => ∃ as d, as.length = n ∧ AgL K H as vs ∧ R as d ∧ ∀ v H', Ex H H' → Fz K H' d v → Q v H'
theorem pr_D {K : PySem.W.Frag} {n : Nat} {R : List Ag → PyData → Prop} {as : List Ag} {H : Hp} {d : PyData} (h : R as d) (hl : as.length = n := by rfl) : Pr K (spD K n R) as H d := fun H1 _ vs hv Q q E => ⟨as, d, hl, hv, h, q⟩
theorem spD_len {K : PySem.W.Frag} {n : Nat} {R : List Ag → PyData → Prop} {vs : List V} {H : Hp} {Q : VK} {E : XK} (h : spD K n R vs H Q E) : vs.length = n := by
  obtain ⟨as, d, h1, h2, _⟩ := h
  rw [agl_len h2, h1]
theorem agl1 {K : PySem.W.Frag} {H : Hp} {a : Ag} {vs : List V} (h : AgL K H [a] vs) : ∃ x, vs = [x] ∧ AgO K H a x := by
  obtain ⟨x, r, rfl, hx, hr⟩ := h
  exact ⟨x, by rw [show r = [] from hr], hx⟩
theorem agl2 {K : PySem.W.Frag} {H : Hp} {a b : Ag} {vs : List V} (h : AgL K H [a, b] vs) : ∃ x y, vs = [x, y] ∧ AgO K H a x ∧ AgO K H b y := by
  obtain ⟨x, r, rfl, hx, hr⟩ := h
  obtain ⟨y, rfl, hy⟩ := agl1 hr
  exact ⟨x, y, rfl, hx, hy⟩
theorem agl3 {K : PySem.W.Frag} {H : Hp} {a b c : Ag} {vs : List V} (h : AgL K H [a, b, c] vs) : ∃ x y z, vs = [x, y, z] ∧ AgO K H a x ∧ AgO K H b y ∧ AgO K H c z := by
  obtain ⟨x, r, rfl, hx, hr⟩ := h
  obtain ⟨y, z, rfl, hy, hz⟩ := agl2 hr
  exact ⟨x, y, z, rfl, hx, hy, hz⟩
theorem agv {K : PySem.W.Frag} {H : Hp} {x y : V} (h : AgO K H (.v x) y) : y = x := h
theorem agd {K : PySem.W.Frag} {H : Hp} {d : PyData} {y : V} (h : AgO K H (.d d) y) : Fz K H d y := h
/-- a picture: a square of marks -/
structure Pic (k : Nat) (M : List (List Nat)) : Prop where
  pos : 1 ≤ k
  le : k ≤ 5
  len : M.length = k
  row : ∀ r ∈ M, r.length = k
  mark : ∀ r ∈ M, ∀ x ∈ r, x ≤ 2
def rIsInt (as : List Ag) (d : PyData) : Prop := ∃ i lo hi : Int, as = [.v (.int i), .v (.int lo), .v (.int hi)] ∧ d = .bool (decide (lo ≤ i) && decide (i ≤ hi))
def rIsPos (as : List Ag) (d : PyData) : Prop := ∃ (k : Nat) (p : List Nat), as = [.v (.int (k : Int)), .d (tN p)] ∧ k ≤ 5 ∧ p.Perm (List.range k) ∧ d = .bool true
def rIsPic (as : List Ag) (d : PyData) : Prop := ∃ (k : Nat) (M : List (List Nat)), as = [.d (tNN M)] ∧ Pic k M ∧ d = .bool true
def rLook (as : List Ag) (d : PyData) : Prop := ∃ (k : Nat) (M : List (List Nat)), as = [.d (tNN M)] ∧ Pic k M ∧ d = .none
def rLooks (as : List Ag) (d : PyData) : Prop := ∃ (k : Nat) (M N : List (List Nat)), as = [.d (tNN M), .d (tNN N)] ∧ Pic k M ∧ Pic k N ∧ d = .none
section
variable {P : Program} {w : World} {K : PySem.W.Frag} {mg : Str → Option Value} {base : Heap}
theorem ok_is_int (B : Bt mg) (d : DefIn K mg "is_int" ["value", "low", "high"] s_is_int) : Okd P w K mg base "is_int" ["value", "low", "high"] s_is_int 1 (spD K 3 rIsInt) := by
  refine Okd.mk d sc_is_int (fun vs H Q E h => spD_len h) (fun f cdv A outer s H vs Q E hr h => ?_)
  obtain ⟨as, d, _, hv, ⟨i, lo, hi, rfl, rfl⟩, k⟩ := h
  obtain ⟨_, _, _, rfl, rfl, rfl, rfl⟩ := agl3 hv
  refine ⟨_, (pss_one (ps_ret (pe_and (pe_callB call_isi (by rfl) B.isinstance boot_isinstance (pa_cons (pv 0) (pa_cons (pe_bltn (v := V.ty "int") (u := Value.type "int") (by rfl) B.int boot_int rfl) pa_nil))) (pe_and (pe_not (pe_callB call_isi (by rfl) B.isinstance boot_isinstance (pa_cons (pv 0) (pa_cons (pe_bltn (v := V.ty "bool") (u := Value.type "bool") (by rfl) B.bool boot_bool rfl) pa_nil)))) (pe_one (pe_chain op_le op_le (pv 1) (pv 0) (pv 2))))))), ?_⟩
  refine s_ret (ev_andV (ev_isiI (ev_var rfl) rfl) fun _ => ev_andV (ev_notV (ev_isiI (ev_var rfl) rfl)) fun _ => ev_chain (ev_var rfl) (ev_var rfl) (ev_var rfl)) fun H1 e1 => k _ H1 e1 ?_
  exact fz_bl
theorem ok_is_position_of (B : Bt mg) (o_is_int : Okd P w K mg base "is_int" ["value", "low", "high"] s_is_int 1 (spD K 3 rIsInt)) (d : DefIn K mg "is_position_of" ["many", "value"] s_is_position_of) : Okd P w K mg base "is_position_of" ["many", "value"] s_is_position_of 2 (spD K 2 rIsPos) := by
  refine Okd.mk d sc_is_position_of (fun vs H Q E h => spD_len h) (fun f cdv A outer s H vs Q E hr h => ?_)
  obtain ⟨as, d, _, hv, ⟨m, p, rfl, hm, hp, rfl⟩, k⟩ := h
  obtain ⟨_, y, rfl, rfl, hy⟩ := agl2 hv
  replace hy := agd hy
  refine ⟨_, (pss_cons (ps_if (PW.pt (pw_or (pt_not (pt_val (pe_callB call_isi (by rfl) B.isinstance boot_isinstance (pa_cons (pv 1) (pa_cons (pe_bltn (v := V.ty "tuple") (u := Value.type "tuple") (by rfl) B.tuple boot_tuple rfl) pa_nil))))) (pw_or (pt_cmpR op_ne (pe_callB call_len_seq (by rfl) B.len boot_len (pa_cons (pv 1) pa_nil)) (pv 0) (nomark _)) (pw_or1 (pt_not (pt_val (pe_callB (cr_all rfl) (by rfl) B.all boot_all (pa_cons (pe_lc (own := [("one", 2)]) rfl sc_is_position_of.nd (pi_tup (pv 1)) (blkOk_by (own := [("one", 2)]) (N := N_is_position_of) (sc := defScope s_is_position_of) (by decide +kernel)) (fun _ _ _ _ _ => pg_name (i := 2) sc_is_position_of.nd rfl (Or.inl rfl)) (fun _ _ _ _ _ => pts_nil) (fun _ _ _ _ _ => (pe_fn o_is_int (hr.mono (by decide)) (pa_cons (pv 2) (pa_cons pe_int (pa_cons (pe_op op_sub (pv 0) pe_int) pa_nil)))))) pa_nil)))))))) (pss_one (ps_ret pe_bl)) pss_nil)
      (pss_one (ps_ret (pe_cmpR op_eq (pe_lenSetT (by rfl) B.len (by rfl) B.set (pv 1)) (pv 0) (nomark _))))), ?_⟩
  have hl := perm_len hp
  refine q_when (b := false) (et_is (et_or (a := false) (et_not (a := true) (et_test (ev_isiT (ed_var rfl hy) rfl))) fun _ => et_or (a := false) (et_is (et_B (ev_op (ev_lenT (ed_var rfl hy)) (ev_var rfl) (rv_ne rfl))) ?_) fun _ => et_not (a := true) (et_test (ev_is (ev_all (bs := p.map fun _ => true) ?_) ?_))) rfl) (fun z => nomatch z) fun _ H1 e1 => ?_
  · simp [hl]
  · refine el_mapT (ed_var rfl hy) (by rw [List.length_map]; omega) (by rw [List.length_map, List.length_map, List.length_map]) (fun _ => rfl) fun i x d e H1 e1 hd he f => ?_
    obtain ⟨n, hn, rfl⟩ := tN_get hd
    obtain ⟨b, hb, rfl⟩ := map_get he
    obtain ⟨n', _, rfl⟩ := map_get hb
    have hx := fz_intI f
    subst hx
    have hlt : n < m := List.mem_range.mp (hp.subset (List.mem_of_getElem? hn))
    refine ed_is (ed_call (ea_v (ev_var rfl) (ea_v ev_c (ea_v (ev_op (ev_var rfl) ev_c rv_I0) ea_nil))) (pr_D ⟨_, _, _, rfl, rfl⟩)) ?_
    rw [decide_eq_true (show (0 : Int) ≤ (n : Int) by omega), decide_eq_true (show (n : Int) ≤ (m : Int) - 1 by omega)]
    rfl
  · simp
  · have e : tN p = .tuple ((p.map fun n : Nat => (n : Int)).map PyData.int) := by
      unfold tN
      rw [List.map_map]
      rfl
    have nd : (p.map fun n : Nat => (n : Int)).Nodup := List.Pairwise.map (fun n : Nat => (n : Int)) (fun a b h z => h (by omega)) (hp.nodup_iff.mpr List.nodup_range)
    refine s_ret (ev_is (ev_op (ev_lenSet (ns := p.map fun n : Nat => (n : Int)) (e ▸ ed_var rfl (fz_ex e1 hy)) (by rw [List.length_map]; omega) m fun l h1 h2 => ?_) (ev_var rfl) (rv_eq rfl)) ?_) fun H2 e2 => k _ H2 (e1.trans e2) fz_bl
    · rw [nodup_len h1 nd h2, List.length_map, hl]
    · rw [decide_eq_true rfl]
/-- the module's own names for numbers and texts -/
structure Cs (mg : Str → Option Value) : Prop where
  spots : ∃ t, mg "MOST_SPOTS" = some (.int 8 t)
  mark : ∃ t, mg "MOST_MARK" = some (.int 9 t)
  position : ∃ t, mg "POSITION" = some (.str "position" t)
  least : ∃ t, mg "LEAST" = some (.str "least" t)
theorem ok_is_picture (B : Bt mg) (C : Cs mg) (o_is_int : Okd P w K mg base "is_int" ["value", "low", "high"] s_is_int 1 (spD K 3 rIsInt)) (d : DefIn K mg "is_picture" ["value"] s_is_picture) : Okd P w K mg base "is_picture" ["value"] s_is_picture 2 (spD K 1 rIsPic) := by
  refine Okd.mk d sc_is_picture (fun vs H Q E h => spD_len h) (fun f cdv A outer s H vs Q E hr h => ?_)
  obtain ⟨as, d, _, hv, ⟨m, M, rfl, hM, rfl⟩, k⟩ := h
  obtain ⟨y, rfl, hy⟩ := agl1 hv
  replace hy := agd hy
  obtain ⟨_, c_most_spots⟩ := C.spots
  obtain ⟨_, c_most_mark⟩ := C.mark
  refine ⟨_, (pss_cons (ps_if (PW.pt (pw_or (pt_not (pt_val (pe_callB call_isi (by rfl) B.isinstance boot_isinstance (pa_cons (pv 0) (pa_cons (pe_bltn (v := V.ty "tuple") (u := Value.type "tuple") (by rfl) B.tuple boot_tuple rfl) pa_nil))))) (pw_or1 (pt_not (pt_chain op_le op_le pe_int (pe_callB call_len_seq (by rfl) B.len boot_len (pa_cons (pv 0) pa_nil)) (pe_glob (v := .int 8) rfl c_most_spots ⟨_, rfl⟩)))))) (pss_one (ps_ret pe_bl)) pss_nil)
      (pss_cons (ps_for PassesOwn.never rfl (pi_tup (pv 0)) (pg_name (i := 1) sc_is_picture.nd rfl (Or.inl rfl)) (pss_one (ps_if (PW.pt (pw_or (pt_not (pt_val (pe_callB call_isi (by rfl) B.isinstance boot_isinstance (pa_cons (pv 1) (pa_cons (pe_bltn (v := V.ty "tuple") (u := Value.type "tuple") (by rfl) B.tuple boot_tuple rfl) pa_nil))))) (pw_or (pt_cmpR op_ne (pe_callB call_len_seq (by rfl) B.len boot_len (pa_cons (pv 1) pa_nil)) (pe_callB call_len_seq (by rfl) B.len boot_len (pa_cons (pv 0) pa_nil)) (nomark _)) (pw_or1 (pt_not (pt_val (pe_callB (cr_all rfl) (by rfl) B.all boot_all (pa_cons (pe_lc (own := [("one", 2)]) rfl sc_is_picture.nd (pi_tup (pv 1)) (blkOk_by (own := [("one", 2)]) (N := N_is_picture) (sc := defScope s_is_picture) (by decide +kernel)) (fun _ _ _ _ _ => pg_name (i := 2) sc_is_picture.nd rfl (Or.inl rfl)) (fun _ _ _ _ _ => pts_nil) (fun _ _ _ _ _ => (pe_fn o_is_int (hr.mono (by decide)) (pa_cons (pv 2) (pa_cons pe_int (pa_cons (pe_glob (v := .int 9) rfl c_most_mark ⟨_, rfl⟩) pa_nil)))))) pa_nil)))))))) (pss_one (ps_ret pe_bl)) pss_nil)))
      (pss_one (ps_ret pe_bl)))), ?_⟩
  have hm1 := hM.pos
  have hm2 := hM.le
  have hl := hM.len
  refine q_when (b := false) (et_is (et_or (a := false) (et_not (a := true) (et_test (ev_isiT (ed_var rfl hy) rfl))) fun _ => et_not (a := true) (et_is (et_test (ev_chain ev_c (ev_lenT (ed_var rfl hy)) ev_c)) ?_)) rfl) (fun z => nomatch z) fun _ H1 e1 => ?_
  · rw [List.length_map, hl]
    simp
    omega
  · refine q_forTd (ed_var rfl (fz_ex e1 hy)) fun H2 e2 => ?_
    refine ⟨fun i σ' H' => (∃ z, σ' = (start N_is_picture [y]).set 1 z) ∧ Ex H2 H', ⟨⟨none, rfl⟩, Ex.refl _⟩, fun i σ' H' p => tex_of p.2, ?_, ?_⟩
    · rintro i x d _ H' hd hx ⟨⟨z, rfl⟩, e3⟩
      obtain ⟨r, hr, rfl⟩ := map_get hd
      have hrm := List.mem_of_getElem? hr
      have hrl := hM.row r hrm
      show tIfS _ _ _ _ ((start N_is_picture [y]).set 1 (some x)) H'
      have hy' := fz_ex ((e1.trans e2).trans e3) hy
      refine s_when (b := false) (et_is (et_or (a := false) (et_not (a := true) (et_test (ev_isiT (ed_var rfl hx) rfl))) fun _ => et_or (a := false) (et_is (et_B (ev_op (ev_lenT (ed_var rfl hx)) (ev_lenT (ed_var rfl hy')) (rv_ne rfl))) ?_) fun _ => et_not (a := true) (et_test (ev_is (ev_all (bs := r.map fun _ => true) ?_) ?_))) rfl) (fun z => nomatch z) fun _ H4 e4 => ⟨⟨_, rfl⟩, e3.trans e4⟩
      · simp [hl, hrl]
      · refine el_mapT (ed_var rfl hx) (by rw [List.length_map]; omega) (by rw [List.length_map, List.length_map, List.length_map]) (fun _ => rfl) fun i x d e H1 e1 hd he f => ?_
        obtain ⟨n, hn, rfl⟩ := tN_get hd
        obtain ⟨b, hb, rfl⟩ := map_get he
        obtain ⟨n', _, rfl⟩ := map_get hb
        have hx := fz_intI f
        subst hx
        have hlt := hM.mark r hrm n (List.mem_of_getElem? hn)
        refine ed_is (ed_call (ea_v (ev_var rfl) (ea_v ev_c (ea_v ev_c ea_nil))) (pr_D ⟨_, _, _, rfl, rfl⟩)) ?_
        rw [decide_eq_true (show (0 : Int) ≤ (n : Int) by omega), decide_eq_true (show (n : Int) ≤ 9 by omega)]
        rfl
      · simp
    · rintro _ H' ⟨_, e3⟩
      exact s_ret ev_c fun H4 e4 => k _ H4 (((e1.trans e2).trans e3).trans e4) fz_bl
theorem ok_look_at_picture (B : Bt mg) (o_is_picture : Okd P w K mg base "is_picture" ["value"] s_is_picture 2 (spD K 1 rIsPic)) (d : DefIn K mg "look_at_picture" ["picture"] s_look_at_picture) : Okd P w K mg base "look_at_picture" ["picture"] s_look_at_picture 3 (spD K 1 rLook) := by
  refine Okd.mk d sc_look_at_picture (fun vs H Q E h => spD_len h) (fun f cdv A outer s H vs Q E hr h => ?_)
  obtain ⟨as, d, _, hv, ⟨m, M, rfl, hM, rfl⟩, k⟩ := h
  obtain ⟨y, rfl, hy⟩ := agl1 hv
  replace hy := agd hy
  refine ⟨_, (pss_one (ps_if (pt_not (pt_val (pe_fn o_is_picture (hr.mono (by decide)) (pa_cons (pv 0) pa_nil)))) (pss_one ps_never) pss_nil)), ?_⟩
  refine s_when (b := false) (et_not (a := true) (et_test (ev_bool (ed_call (ea_d (ed_var rfl hy) ea_nil) (pr_D ⟨m, M, rfl, hM, rfl⟩))))) (fun z => nomatch z) fun _ H1 e1 => k _ H1 e1 fz_non
theorem ok_look_at_pictures (B : Bt mg) (o_look_at_picture : Okd P w K mg base "look_at_picture" ["picture"] s_look_at_picture 3 (spD K 1 rLook)) (d : DefIn K mg "look_at_pictures" ["one", "other"] s_look_at_pictures) : Okd P w K mg base "look_at_pictures" ["one", "other"] s_look_at_pictures 4 (spD K 2 rLooks) := by
  refine Okd.mk d sc_look_at_pictures (fun vs H Q E h => spD_len h) (fun f cdv A outer s H vs Q E hr h => ?_)
  obtain ⟨as, d, _, hv, ⟨m, M, N, rfl, hM, hN, rfl⟩, k⟩ := h
  obtain ⟨y, z, rfl, hy, hz⟩ := agl2 hv
  replace hy := agd hy
  replace hz := agd hz
  refine ⟨_, (pss_cons (ps_expr (pe_fn o_look_at_picture (hr.mono (by decide)) (pa_cons (pv 0) pa_nil)))
      (pss_cons (ps_expr (pe_fn o_look_at_picture (hr.mono (by decide)) (pa_cons (pv 1) pa_nil)))
      (pss_one (ps_if (pt_cmpR op_ne (pe_callB call_len_seq (by rfl) B.len boot_len (pa_cons (pv 0) pa_nil)) (pe_callB call_len_seq (by rfl) B.len boot_len (pa_cons (pv 1) pa_nil)) (nomark _)) (pss_one ps_never) pss_nil)))), ?_⟩
  refine q_dropD (ed_call (ea_d (ed_var rfl hy) ea_nil) (pr_D ⟨m, M, rfl, hM, rfl⟩)) fun H1 e1 => ?_
  refine q_dropD (ed_call (ea_d (ed_var rfl (fz_ex e1 hz)) ea_nil) (pr_D ⟨m, N, rfl, hN, rfl⟩)) fun H2 e2 => ?_
  refine s_when (b := false) (et_is (et_B (ev_op (ev_lenT (ed_var rfl (fz_ex (e1.trans e2) hy))) (ev_lenT (ed_var rfl (fz_ex (e1.trans e2) hz))) (rv_ne rfl))) ?_) (fun z => nomatch z) fun _ H3 e3 => k _ H3 ((e1.trans e2).trans e3) fz_non
  simp [hM.len, hN.len]
end
theorem Pic.sq {k : Nat} {M : List (List Nat)} (h : Pic k M) : Sq k M := ⟨h.len, h.row⟩
end WT
/-! What is moved, read. -/
namespace WT
open PySem PySem.Spec PyProof.Rows L2 Evl
abbrev s_told_moved : Stmt := top 14
abbrev N_told_moved : List Str := ["picture", "position", "row", "found", "place", "other", "mark"]
theorem sc_told_moved : FnScope N_told_moved ["picture", "position"] (defScope s_told_moved) := ⟨rfl, rfl, rfl, by decide +kernel, rfl, by decide +kernel, by decide +kernel⟩
abbrev s_law_moved : Stmt := top 30
abbrev N_law_moved : List Str := ["picture", "position", "row", "found", "one", "other", "mark"]
theorem sc_law_moved : FnScope N_law_moved ["picture", "position"] (defScope s_law_moved) := ⟨rfl, rfl, rfl, by decide +kernel, rfl, by decide +kernel, by decide +kernel⟩
def rMoved (as : List Ag) (d : PyData) : Prop := ∃ (k : Nat) (M : List (List Nat)) (p : List Nat), as = [.d (tNN M), .d (tN p)] ∧ Sq k M ∧ k ≤ 5 ∧ p.Perm (List.range k) ∧ d = tNN (movedN k M p)
section
variable {P : Program} {w : World} {K : PySem.W.Frag} {mg : Str → Option Value} {base : Heap}
theorem ok_told_moved (B : Bt mg) (d : DefIn K mg "told_moved" ["picture", "position"] s_told_moved) : Okd P w K mg base "told_moved" ["picture", "position"] s_told_moved 1 (spD K 2 rMoved) := by
  refine Okd.mk d sc_told_moved (fun vs H Q E h => spD_len h) (fun f cdv A outer s H vs Q E hr h => ?_)
  obtain ⟨as, d, _, hv, ⟨m, M, p, rfl, hM, hm, hp, rfl⟩, k⟩ := h
  obtain ⟨y, z, rfl, hy, hz⟩ := agl2 hv
  replace hy := agd hy
  replace hz := agd hz
  refine ⟨_, (pss_cons (ps_setLc (i := 3) (own := [("row", 2)]) rfl sc_told_moved.nd rfl rfl (sw_true rfl rfl rfl (by decide +kernel)) (pi_tup (pv 0)) (blkOk_by (own := [("row", 2)]) (N := N_told_moved) (sc := defScope s_told_moved) (by decide +kernel)) (fun _ _ _ _ _ => pg_name (i := 2) sc_told_moved.nd rfl (Or.inl rfl)) (fun _ _ _ _ _ => pts_nil) (fun _ _ _ _ _ => (pe_op op_rep (pe_lst (pa_cons pe_int pa_nil)) (pe_callB (cK (K := K) (r := rLenS) call_len_seq rfl) (by rfl) B.len boot_len (pa_cons (pv 0) pa_nil)))))
      (pss_cons (ps_for PassesOwn.never rfl (pi_enumT (by rfl) B.enumerate (pa_cons (pv 0) pa_nil)) (pg_tup (by rfl) (pgs_cons (pg_name (i := 4) sc_told_moved.nd rfl (Or.inl rfl)) (pgs_cons (pg_name (i := 2) sc_told_moved.nd rfl (Or.inl rfl)) pgs_nil))) (pss_one (ps_for PassesOwn.never rfl (pi_enumT (by rfl) B.enumerate (pa_cons (pv 2) pa_nil)) (pg_tup (by rfl) (pgs_cons (pg_name (i := 5) sc_told_moved.nd rfl (Or.inl rfl)) (pgs_cons (pg_name (i := 6) sc_told_moved.nd rfl (Or.inl rfl)) pgs_nil))) (pss_one (ps_asg (pv 6) (pg_sub (pe_ix ix_list (pv 3) (pe_ix ix_tup (pv 1) (pv 4) (fun _ _ => rfl)) (fun _ _ => rfl)) (pe_ix ix_tup (pv 1) (pv 5) (fun _ _ => rfl)) set_list))))))
      (pss_one (ps_ret (pe_callTy call_tuple_of (by rfl) B.tuple boot_tuple (pa_cons (pe_lc (own := [("row", 2)]) rfl sc_told_moved.nd (pi_list (pv 3)) (blkOk_by (own := [("row", 2)]) (N := N_told_moved) (sc := defScope s_told_moved) (by decide +kernel)) (fun _ _ _ _ _ => pg_name (i := 2) sc_told_moved.nd rfl (Or.inl rfl)) (fun _ _ _ _ _ => pts_nil) (fun _ _ _ _ _ => (pe_callTy (cK (K := K) (r := rTupOf) call_tuple_of rfl) (by rfl) B.tuple boot_tuple (pa_cons (pv 2) pa_nil)))) pa_nil)))))), ?_⟩
  have hl := hM.len
  have hpl := perm_len hp
  have hlen : ∀ {H1 : Hp} {σ : L2.St}, Ex H H1 → σ[0]? = some (some y) → Ev (tCB (rLenS K) (tCons (tVar 0) tNil)) σ H1 (.int (m : Int)) := fun e h0 => ev_is (ev_lenT (ed_var h0 (fz_ex e hy))) (by rw [List.length_map, hl])
  refine q_asgR (rss := List.replicate m (List.replicate m (.int 0))) (elr_is (er_lcTd (out := fun i => List.replicate i (List.replicate m (.int 0))) (ed_var rfl hy) rfl (fun i hi => ?_) (fun _ => rfl) fun i x d H1 e1 hd f => ⟨_, el_rep (WT.el_lst (ea_d (ed_ev ev_c fz_int) ea_nil) (by decide)) (hlen e1 rfl) (by omega), ?_⟩) ?_) fun q qs H1 hq e1 R => ?_
  · rw [List.length_replicate]
    rw [List.length_map] at hi
    omega
  · rw [List.replicate_succ']
  · rw [List.length_map, hl]
  · have hqn : ∀ x ∈ q :: qs, H x = none := hq
    -- after n rows
    let In (F : List (List Nat)) (n j : Nat) : Prop := Sq m F ∧ ∀ a b c d, (a < n ∨ (a = n ∧ b < j)) → p[a]? = some c → p[b]? = some d → at2 F c d = at2 M a b
    have hp1 : ∀ {H1 : Hp}, TEx H H1 → Fz K H1 (tN p) z := fun e => Fz.mono e _ _ hz
    refine q_forEn (ed_var rfl (fz_ex e1 hy)) fun H2 e2 => ⟨fun n σ' H' => (∃ z2 z4 z5 z6, σ' = [some y, some z, z2, some (.ref q), z4, z5, z6]) ∧ TEx H2 H' ∧ Ex H H' ∧ ∃ F, RowsP K H' q qs (rN F) ∧ In F n 0,
      ⟨⟨none, none, none, none, rfl⟩, TEx.refl _, e1.trans e2, List.replicate m (List.replicate m 0), ?_, sq_zero, fun a b c d h => ?_⟩, fun n σ' H' h => h.2.1, ?_, ?_⟩
    · have e : rN (List.replicate m (List.replicate m 0)) = List.replicate m (List.replicate m (.int 0)) := by
        unfold rN rNs
        rw [List.map_replicate, List.map_replicate]
        rfl
      rw [e]
      exact R.ex e2
    · omega
    · rintro n x d σ' H' H'' hd eH hx ⟨⟨z2, z4, z5, z6, rfl⟩, tx, eX, F, RF, sqF, inv⟩
      obtain ⟨r, hr, rfl⟩ := map_get hd
      have hrl := hM.row r (List.mem_of_getElem? hr)
      have hn : n < m := by
        have := (List.getElem?_eq_some_iff.mp hr).1
        omega
      obtain ⟨pn, hpn⟩ : ∃ a, p[n]? = some a := ⟨_, List.getElem?_eq_getElem (by omega)⟩
      refine s_forEn (ed_var rfl hx) fun H3 e3 => ⟨fun j σ' H' => (∃ z5 z6, σ' = [some y, some z, some x, some (.ref q), some (.int (n : Int)), z5, z6]) ∧ TEx H3 H' ∧ Ex H H' ∧ ∃ F, RowsP K H' q qs (rN F) ∧ In F n j,
        ⟨⟨z5, z6, rfl⟩, TEx.refl _, (eX.trans eH).trans e3, F, RF.ex (eH.trans e3), sqF, inv⟩, fun n σ' H' h => h.2.1, ?_, ?_⟩
      · rintro j x2 d2 σ' H4 H5 hd2 eH5 hx2 ⟨⟨z5, z6, rfl⟩, tx4, eX4, F4, RF4, sqF4, inv4⟩
        obtain ⟨mk, hmk, rfl⟩ := tN_get hd2
        have hj : j < m := by
          have := (List.getElem?_eq_some_iff.mp hmk).1
          omega
        obtain ⟨pj, hpj⟩ : ∃ a, p[j]? = some a := ⟨_, List.getElem?_eq_getElem (by omega)⟩
        have hzz : Fz K H5 (tN p) z := hp1 (tex_of (eX4.trans eH5))
        have gp : ∀ {i a : Nat}, p[i]? = some a → (p.map fun n : Nat => PyData.int (n : Int))[i]? = some (.int (a : Int)) := fun h => by
          rw [List.getElem?_map, h]
          rfl
        obtain ⟨row, hrow, hrowl, _⟩ := sqF4.get (perm_lt hp hpn)
        refine s_setRow (RF4.ex eH5) (ed_var rfl hx2) (ev_var rfl) (ev_int (ed_ixT (ed_var rfl hzz) (ev_var rfl) (gp hpn))) (ev_int (ed_ixT (ed_var rfl hzz) (ev_var rfl) (gp hpj))) (rN_get hrow) (by unfold rNs; rw [List.length_map, hrowl]; exact perm_lt hp hpj) fun H6 q' xs v hq' e6 h6 R6 => ?_
        refine ⟨⟨_, _, rfl⟩, (tx4.trans (tex_of (eH5.trans e6))).trans (tex_lst h6), Ex.mut ((eX4.trans eH5).trans e6) (hqn q' (List.mem_cons_of_mem _ hq')), F4.set pn (row.set pj mk), ?_, sq_set sqF4 hrow, fun a b c d h hc hd5 => ?_⟩
        · rw [← rN_set]
          exact R6
        · rw [at2_set sqF4 hrow (perm_lt hp hpj)]
          by_cases hcd : c = pn ∧ d = pj
          · rw [if_pos hcd]
            have ea : a = n := by rw [← idx_of_get (perm_nd hp) hc, hcd.1, idx_of_get (perm_nd hp) hpn]
            have eb : b = j := by rw [← idx_of_get (perm_nd hp) hd5, hcd.2, idx_of_get (perm_nd hp) hpj]
            subst ea eb
            have z1 := hM.at hr hj
            rw [hmk] at z1
            exact Option.some.inj z1
          · rw [if_neg hcd]
            refine inv4 a b c d ?_ hc hd5
            rcases h with h | ⟨h1, h2⟩
            · exact .inl h
            · refine .inr ⟨h1, ?_⟩
              rcases Nat.lt_or_eq_of_le (Nat.le_of_lt_succ h2) with h3 | h3
              · exact h3
              · subst h1 h3
                rw [hpn] at hc
                rw [hpj] at hd5
                exact absurd ⟨(Option.some.inj hc).symm, (Option.some.inj hd5).symm⟩ hcd
      · rintro σ' H4 ⟨⟨z5, z6, rfl⟩, tx4, eX4, F4, RF4, sqF4, inv4⟩
        refine ⟨⟨_, _, _, _, rfl⟩, (tx.trans (tex_of (eH.trans e3))).trans tx4, eX4, F4, RF4, sqF4, fun a b c d h hc hd => inv4 a b c d ?_ hc hd⟩
        rcases h with h | h
        · rcases Nat.lt_or_eq_of_le (Nat.le_of_lt_succ h) with h3 | h3
          · exact .inl h3
          · refine .inr ⟨h3, ?_⟩
            have := (List.getElem?_eq_some_iff.mp hd).1
            rw [List.length_map]
            omega
        · omega
    · rintro σ' H' ⟨⟨z2, z4, z5, z6, rfl⟩, tx, eX, F, RF, sqF, inv⟩
      have hF : movedN m M p = F := moved_of hp sqF fun i j a b ha hb => inv i j a b (.inl (by
        have := (List.getElem?_eq_some_iff.mp ha).1
        rw [List.length_map]
        omega)) ha hb
      have hFl : (rN F).length = m := by
        unfold rN
        rw [List.length_map, sqF.len]
      refine s_retD (ed_tupOf (el_is (el_lcRows (out := fun i => ((rN F).map PyData.tuple).take i) (ev_var rfl) RF rfl (fun i hi => ?_) (fun _ => rfl) fun i q2 xs r H4 e4 hr hx hf => ⟨.tuple r, ed_tupOfL (ev_var rfl) (sq_of hx) hf, take_get (by rw [List.getElem?_map, hr]; rfl)⟩) (by rw [List.take_of_length_le (by rw [List.length_map]; exact Nat.le_refl _)]))) fun v H4 e4 f => k v H4 (eX.trans e4) ?_
      · rw [List.length_take]
        omega
      · rw [hF, tNN_rN]
        exact f
theorem ok_law_moved (B : Bt mg) (d : DefIn K mg "_law_moved" ["picture", "position"] s_law_moved) : Okd P w K mg base "_law_moved" ["picture", "position"] s_law_moved 1 (spD K 2 rMoved) := by
  refine Okd.mk d sc_law_moved (fun vs H Q E h => spD_len h) (fun f cdv A outer s H vs Q E hr h => ?_)
  obtain ⟨as, d, _, hv, ⟨m, M, p, rfl, hM, hm, hp, rfl⟩, k⟩ := h
  obtain ⟨y, z, rfl, hy, hz⟩ := agl2 hv
  replace hy := agd hy
  replace hz := agd hz
  refine ⟨_, (pss_cons (ps_setLc (i := 3) (own := [("row", 2)]) rfl sc_law_moved.nd rfl rfl (sw_true rfl rfl rfl (by decide +kernel)) (pi_tup (pv 0)) (blkOk_by (own := [("row", 2)]) (N := N_law_moved) (sc := defScope s_law_moved) (by decide +kernel)) (fun _ _ _ _ _ => pg_name (i := 2) sc_law_moved.nd rfl (Or.inl rfl)) (fun _ _ _ _ _ => pts_nil) (fun _ _ _ _ _ => (pe_op op_rep (pe_lst (pa_cons pe_int pa_nil)) (pe_callB (cK (K := K) (r := rLenS) call_len_seq rfl) (by rfl) B.len boot_len (pa_cons (pv 0) pa_nil)))))
      (pss_cons (ps_for PassesOwn.never rfl (pi_enumT (by rfl) B.enumerate (pa_cons (pv 0) pa_nil)) (pg_tup (by rfl) (pgs_cons (pg_name (i := 4) sc_law_moved.nd rfl (Or.inl rfl)) (pgs_cons (pg_name (i := 2) sc_law_moved.nd rfl (Or.inl rfl)) pgs_nil))) (pss_one (ps_for PassesOwn.never rfl (pi_enumT (by rfl) B.enumerate (pa_cons (pv 2) pa_nil)) (pg_tup (by rfl) (pgs_cons (pg_name (i := 5) sc_law_moved.nd rfl (Or.inl rfl)) (pgs_cons (pg_name (i := 6) sc_law_moved.nd rfl (Or.inl rfl)) pgs_nil))) (pss_one (ps_asg (pv 6) (pg_sub (pe_ix ix_list (pv 3) (pe_ix ix_tup (pv 1) (pv 4) (fun _ _ => rfl)) (fun _ _ => rfl)) (pe_ix ix_tup (pv 1) (pv 5) (fun _ _ => rfl)) set_list))))))
      (pss_one (ps_ret (pe_callTy call_tuple_of (by rfl) B.tuple boot_tuple (pa_cons (pe_lc (own := [("row", 2)]) rfl sc_law_moved.nd (pi_list (pv 3)) (blkOk_by (own := [("row", 2)]) (N := N_law_moved) (sc := defScope s_law_moved) (by decide +kernel)) (fun _ _ _ _ _ => pg_name (i := 2) sc_law_moved.nd rfl (Or.inl rfl)) (fun _ _ _ _ _ => pts_nil) (fun _ _ _ _ _ => (pe_callTy (cK (K := K) (r := rTupOf) call_tuple_of rfl) (by rfl) B.tuple boot_tuple (pa_cons (pv 2) pa_nil)))) pa_nil)))))), ?_⟩
  have hl := hM.len
  have hpl := perm_len hp
  have hlen : ∀ {H1 : Hp} {σ : L2.St}, Ex H H1 → σ[0]? = some (some y) → Ev (tCB (rLenS K) (tCons (tVar 0) tNil)) σ H1 (.int (m : Int)) := fun e h0 => ev_is (ev_lenT (ed_var h0 (fz_ex e hy))) (by rw [List.length_map, hl])
  refine q_asgR (rss := List.replicate m (List.replicate m (.int 0))) (elr_is (er_lcTd (out := fun i => List.replicate i (List.replicate m (.int 0))) (ed_var rfl hy) rfl (fun i hi => ?_) (fun _ => rfl) fun i x d H1 e1 hd f => ⟨_, el_rep (WT.el_lst (ea_d (ed_ev ev_c fz_int) ea_nil) (by decide)) (hlen e1 rfl) (by omega), ?_⟩) ?_) fun q qs H1 hq e1 R => ?_
  · rw [List.length_replicate]
    rw [List.length_map] at hi
    omega
  · rw [List.replicate_succ']
  · rw [List.length_map, hl]
  · have hqn : ∀ x ∈ q :: qs, H x = none := hq
    -- after n rows
    let In (F : List (List Nat)) (n j : Nat) : Prop := Sq m F ∧ ∀ a b c d, (a < n ∨ (a = n ∧ b < j)) → p[a]? = some c → p[b]? = some d → at2 F c d = at2 M a b
    have hp1 : ∀ {H1 : Hp}, TEx H H1 → Fz K H1 (tN p) z := fun e => Fz.mono e _ _ hz
    refine q_forEn (ed_var rfl (fz_ex e1 hy)) fun H2 e2 => ⟨fun n σ' H' => (∃ z2 z4 z5 z6, σ' = [some y, some z, z2, some (.ref q), z4, z5, z6]) ∧ TEx H2 H' ∧ Ex H H' ∧ ∃ F, RowsP K H' q qs (rN F) ∧ In F n 0,
      ⟨⟨none, none, none, none, rfl⟩, TEx.refl _, e1.trans e2, List.replicate m (List.replicate m 0), ?_, sq_zero, fun a b c d h => ?_⟩, fun n σ' H' h => h.2.1, ?_, ?_⟩
    · have e : rN (List.replicate m (List.replicate m 0)) = List.replicate m (List.replicate m (.int 0)) := by
        unfold rN rNs
        rw [List.map_replicate, List.map_replicate]
        rfl
      rw [e]
      exact R.ex e2
    · omega
    · rintro n x d σ' H' H'' hd eH hx ⟨⟨z2, z4, z5, z6, rfl⟩, tx, eX, F, RF, sqF, inv⟩
      obtain ⟨r, hr, rfl⟩ := map_get hd
      have hrl := hM.row r (List.mem_of_getElem? hr)
      have hn : n < m := by
        have := (List.getElem?_eq_some_iff.mp hr).1
        omega
      obtain ⟨pn, hpn⟩ : ∃ a, p[n]? = some a := ⟨_, List.getElem?_eq_getElem (by omega)⟩
      refine s_forEn (ed_var rfl hx) fun H3 e3 => ⟨fun j σ' H' => (∃ z5 z6, σ' = [some y, some z, some x, some (.ref q), some (.int (n : Int)), z5, z6]) ∧ TEx H3 H' ∧ Ex H H' ∧ ∃ F, RowsP K H' q qs (rN F) ∧ In F n j,
        ⟨⟨z5, z6, rfl⟩, TEx.refl _, (eX.trans eH).trans e3, F, RF.ex (eH.trans e3), sqF, inv⟩, fun n σ' H' h => h.2.1, ?_, ?_⟩
      · rintro j x2 d2 σ' H4 H5 hd2 eH5 hx2 ⟨⟨z5, z6, rfl⟩, tx4, eX4, F4, RF4, sqF4, inv4⟩
        obtain ⟨mk, hmk, rfl⟩ := tN_get hd2
        have hj : j < m := by
          have := (List.getElem?_eq_some_iff.mp hmk).1
          omega
        obtain ⟨pj, hpj⟩ : ∃ a, p[j]? = some a := ⟨_, List.getElem?_eq_getElem (by omega)⟩
        have hzz : Fz K H5 (tN p) z := hp1 (tex_of (eX4.trans eH5))
        have gp : ∀ {i a : Nat}, p[i]? = some a → (p.map fun n : Nat => PyData.int (n : Int))[i]? = some (.int (a : Int)) := fun h => by
          rw [List.getElem?_map, h]
          rfl
        obtain ⟨row, hrow, hrowl, _⟩ := sqF4.get (perm_lt hp hpn)
        refine s_setRow (RF4.ex eH5) (ed_var rfl hx2) (ev_var rfl) (ev_int (ed_ixT (ed_var rfl hzz) (ev_var rfl) (gp hpn))) (ev_int (ed_ixT (ed_var rfl hzz) (ev_var rfl) (gp hpj))) (rN_get hrow) (by unfold rNs; rw [List.length_map, hrowl]; exact perm_lt hp hpj) fun H6 q' xs v hq' e6 h6 R6 => ?_
        refine ⟨⟨_, _, rfl⟩, (tx4.trans (tex_of (eH5.trans e6))).trans (tex_lst h6), Ex.mut ((eX4.trans eH5).trans e6) (hqn q' (List.mem_cons_of_mem _ hq')), F4.set pn (row.set pj mk), ?_, sq_set sqF4 hrow, fun a b c d h hc hd5 => ?_⟩
        · rw [← rN_set]
          exact R6
        · rw [at2_set sqF4 hrow (perm_lt hp hpj)]
          by_cases hcd : c = pn ∧ d = pj
          · rw [if_pos hcd]
            have ea : a = n := by rw [← idx_of_get (perm_nd hp) hc, hcd.1, idx_of_get (perm_nd hp) hpn]
            have eb : b = j := by rw [← idx_of_get (perm_nd hp) hd5, hcd.2, idx_of_get (perm_nd hp) hpj]
            subst ea eb
            have z1 := hM.at hr hj
            rw [hmk] at z1
            exact Option.some.inj z1
          · rw [if_neg hcd]
            refine inv4 a b c d ?_ hc hd5
            rcases h with h | ⟨h1, h2⟩
            · exact .inl h
            · refine .inr ⟨h1, ?_⟩
              rcases Nat.lt_or_eq_of_le (Nat.le_of_lt_succ h2) with h3 | h3
              · exact h3
              · subst h1 h3
                rw [hpn] at hc
                rw [hpj] at hd5
                exact absurd ⟨(Option.some.inj hc).symm, (Option.some.inj hd5).symm⟩ hcd
      · rintro σ' H4 ⟨⟨z5, z6, rfl⟩, tx4, eX4, F4, RF4, sqF4, inv4⟩
        refine ⟨⟨_, _, _, _, rfl⟩, (tx.trans (tex_of (eH.trans e3))).trans tx4, eX4, F4, RF4, sqF4, fun a b c d h hc hd => inv4 a b c d ?_ hc hd⟩
        rcases h with h | h
        · rcases Nat.lt_or_eq_of_le (Nat.le_of_lt_succ h) with h3 | h3
          · exact .inl h3
          · refine .inr ⟨h3, ?_⟩
            have := (List.getElem?_eq_some_iff.mp hd).1
            rw [List.length_map]
            omega
        · omega
    · rintro σ' H' ⟨⟨z2, z4, z5, z6, rfl⟩, tx, eX, F, RF, sqF, inv⟩
      have hF : movedN m M p = F := moved_of hp sqF fun i j a b ha hb => inv i j a b (.inl (by
        have := (List.getElem?_eq_some_iff.mp ha).1
        rw [List.length_map]
        omega)) ha hb
      have hFl : (rN F).length = m := by
        unfold rN
        rw [List.length_map, sqF.len]
      refine s_retD (ed_tupOf (el_is (el_lcRows (out := fun i => ((rN F).map PyData.tuple).take i) (ev_var rfl) RF rfl (fun i hi => ?_) (fun _ => rfl) fun i q2 xs r H4 e4 hr hx hf => ⟨.tuple r, ed_tupOfL (ev_var rfl) (sq_of hx) hf, take_get (by rw [List.getElem?_map, hr]; rfl)⟩) (by rw [List.take_of_length_le (by rw [List.length_map]; exact Nat.le_refl _)]))) fun v H4 e4 f => k v H4 (eX.trans e4) ?_
      · rw [List.length_take]
        omega
      · rw [hF, tNN_rN]
        exact f
end
end WT
/-! The draws. -/
namespace WT
open PySem PySem.Spec PyProof.Rows L2 Evl
abbrev s_law_position_drawn : Stmt := top 28
abbrev N_law_position_drawn : List Str := ["pot", "many", "kind", "places", "size", "ring", "found", "at", "place", "to"]
theorem sc_law_position_drawn : FnScope N_law_position_drawn ["pot", "many"] (defScope s_law_position_drawn) := ⟨rfl, rfl, rfl, by decide +kernel, rfl, by decide +kernel, by decide +kernel⟩
abbrev s_law_picture_drawn : Stmt := top 29
abbrev N_law_picture_drawn : List Str := ["pot", "most", "many", "kind", "rows", "one", "other", "place", "row"]
theorem sc_law_picture_drawn : FnScope N_law_picture_drawn ["pot", "most"] (defScope s_law_picture_drawn) := ⟨rfl, rfl, rfl, by decide +kernel, rfl, by decide +kernel, by decide +kernel⟩
abbrev s_law_near : Stmt := top 33
abbrev N_law_near : List Str := ["pot", "picture", "rows", "one", "other", "row"]
theorem sc_law_near : FnScope N_law_near ["pot", "picture"] (defScope s_law_near) := ⟨rfl, rfl, rfl, by decide +kernel, rfl, by decide +kernel, by decide +kernel⟩
theorem But.mut {p r : Addr} {H H' : Hp} {o : HO} (e : But p H H') (h : H r = none) : But p H (upd H' r o) := fun q u n hq => by
  have nr : q ≠ r := fun z => by
    rw [z, h] at hq
    cases hq
  rw [upd_ne nr]
  exact e q u n hq
theorem But.mutp {p : Addr} {H H' : Hp} {o : HO} (e : But p H H') : But p H (upd H' p o) := e.trans But.put
theorem But.ex {p : Addr} {H H1 H2 : Hp} (e : But p H H1) (x : Ex H1 H2) : But p H H2 := e.trans (But.of x)
theorem But.sql {K : PySem.W.Frag} {p a : Addr} {H H' : Hp} {xs : List V} (e : But p H H') (n : a ≠ p) (h : H a = some (.lst xs)) : H' a = some (.lst xs) := e _ _ n h
theorem But.lst {p r : Addr} {H H' : Hp} {xs : List V} {n : Nat} (e : But p H H') (hP : PotAt H' p n) (h : H r = some (.lst xs)) (hr : r ≠ p) : H' r = some (.lst xs) := e _ _ hr h
theorem fresh_ne {H : Hp} {p r : Addr} {n : Nat} (hP : PotAt H p n) (h : H r = none) : r ≠ p := fun z => by
  obtain ⟨a, b, c, h1, _⟩ := hP
  rw [z, h1] at h
  cases h
theorem x_take {σ : L2.St} {H : Hp} {ta tb : TE} {p : Addr} {n u : Nat} {Q : VK} (ha : Ev ta σ H (.ref p)) (hb : Ev tb σ H (.int (u : Int))) (hP : PotAt H p n) (hn : n < 1000000) (h0 : 0 < u) (h1 : u < 1073741824)
    (k : ∀ (d : Nat) H', d < u → But p H H' → PotAt H' p (n + 1) → Q (.int (d : Int)) H') : tCall spTake [] E0 (tCons ta (tCons tb tNil)) σ H Q :=
  ha H (Ex.refl H) _ fun H1 e1 => hb H1 e1 _ fun H2 e2 => ⟨p, n, u, rfl, hP.ex (e1.trans e2), hn, h0, h1, fun d H' hd e hP' => k d H' hd ((But.of (e1.trans e2)).trans e) hP'⟩
/-- a new list of some of the pool's, each once -/
def spSome (K : PySem.W.Frag) : Sp := fun vs H Q _ => ∃ (p q : Addr) (n many : Nat) (ds : List PyData) (xs : List V), vs = [.ref p, .ref q, .int (many : Int)] ∧ PotAt H p n ∧ n + many < 1000000 ∧ SqL K H q xs ∧ FzL K H ds xs ∧ many ≤ ds.length ∧ ds.length ≤ 1000 ∧
  ∀ r H' es ys rs, H r = none → But p H H' → PotAt H' p (n + many) → H' r = some (.lst ys) → FzL K H' es ys → es.length = many → (es ++ rs).Perm ds → Q (.ref r) H'
section
variable {P : Program} {w : World} {K : PySem.W.Frag} {mg : Str → Option Value} {base : Heap}
theorem ok_some (B : Bt mg) (o_law_take : Okd P w K mg base "_law_take" ["pot", "upto"] s_law_take 1 spTake) (d : DefIn K mg "_law_some" ["pot", "pool", "many"] s_law_some) : Okd P w K mg base "_law_some" ["pot", "pool", "many"] s_law_some 2 (spSome K) := by
  refine Okd.mk d sc_law_some (fun vs H Q E h => ?_) (fun f cdv A outer s H vs Q E hr h => ?_)
  · obtain ⟨p, q, n, many, ds, xs, rfl, _⟩ := h
    rfl
  · obtain ⟨p, q, n, m, ds, xs, rfl, hP, hn, hS, hf, hm, hl, k⟩ := h
    refine ⟨_, (pss_cons (ps_par (i := 3) (j := 4) (by rfl) sc_law_some.nd rfl rfl (by decide) rfl rfl (pa_cons (pe_callTy call_list_of (by rfl) B.list boot_list (pa_cons (pv 1) pa_nil)) (pa_cons (pe_lst pa_nil) pa_nil)) (by rfl))
      (pss_cons (ps_for PassesOwn.never rfl (pi_range1 (by rfl) B.range (pa_cons (pv 2) pa_nil)) (pg_name (i := 5) sc_law_some.nd rfl (Or.inl rfl)) (pss_one (ps_expr (pe_bm PySem.F.plainAttrs_list PySem.F.slot_list_append PySem.F.type_list_append mt_append (pv 4) (pa_cons (pe_bm PySem.F.plainAttrs_list PySem.F.slot_list_pop PySem.F.type_list_pop mt_popAt (pv 3) (pa_cons (pe_fn o_law_take (hr.mono (by decide)) (pa_cons (pv 0) (pa_cons (pe_callB call_len_seq (by rfl) B.len boot_len (pa_cons (pv 3) pa_nil)) pa_nil))) pa_nil)) pa_nil)))))
      (pss_one (ps_ret (pv 4))))), ?_⟩
    -- rests, found
    refine q_parM (c_cons (Evl.el_list (ev_var rfl) hS H (Ex.refl H) _ fun r H1 hr1 e1 h1 => c_cons ?_))
    refine (WT.el_lst (K := K) (ds := []) ea_nil (by decide)) H1 (Ex.refl _) _ fun fo ys H2 hf2 e2 h2 hys => c_nil ?_
    have hy0 := fzl_nilI hys
    subst hy0
    refine ⟨_, _, rfl, ?_⟩
    have rf : r ≠ fo := fun z => by
      rw [z, hf2] at h1
      cases h1
    have hf0 : H fo = none := fresh_back e1 hf2
    have np : r ≠ p := fresh_ne hP hr1
    have nf : fo ≠ p := fresh_ne hP hf0
    refine q_forR1 (n := (m : Int)) (Evl.ea_cons (ev_var rfl) Evl.ea_nil) ⟨by omega, by omega⟩ (fun i σ' H' => (∃ z, σ' = [some (.ref p), some (.ref q), some (.int (m : Int)), some (.ref r), some (.ref fo), z]) ∧ But p H H' ∧ PotAt H' p (n + i) ∧
      ∃ rs es xs ys, H' r = some (.lst xs) ∧ FzL K H' rs xs ∧ H' fo = some (.lst ys) ∧ FzL K H' es ys ∧ es.length = i ∧ (es ++ rs).Perm ds) (fun H3 e3 => ?_) (fun i σ' H' hi h => ?_) (fun σ' H' h => ?_)
    · exact ⟨⟨none, rfl⟩, But.of ((e1.trans e2).trans e3), hP.ex ((e1.trans e2).trans e3), ds, [], xs, [], e3 _ _ (e2 _ _ h1), fzl_ex ((e1.trans e2).trans e3) hf, e3 _ _ h2, fzl_nil, rfl, .refl _⟩
    · obtain ⟨⟨z, rfl⟩, eB, hP', rs, es, xs', ys, h3, h4, h5, h6, h7, h8⟩ := h
      have him : i < m := by omega
      have hlen := h8.length_eq
      rw [List.length_append, h7] at hlen
      have hxl := fzl_len h4
      refine ⟨_, rfl, ⟨Or.inl ⟨rfl, _, sq_of h5⟩, ⟨_, rfl, Or.inl ⟨rfl, _, sq_of h3⟩, ?_⟩⟩⟩
      refine x_take (u := xs'.length) (ev_var rfl) (ev_len (ev_var rfl) (sq_of h3)) hP' (by omega) (by omega) (by omega) fun dd H4 hdd e4 hP4 => ?_
      have h34 := e4 _ _ np h3
      have h54 := e4 _ _ nf h5
      have tx4 := hP'.tex e4
      obtain ⟨x, hx⟩ : ∃ x, xs'[dd]? = some x := ⟨_, List.getElem?_eq_getElem hdd⟩
      obtain ⟨e, he, fe⟩ := fzl_getV (FzL.mono tx4 _ _ h4) hx
      refine ⟨r, xs', dd, dd, x, rfl, rfl, h34, by omega, by omega, ?_, hx, ?_⟩
      · have n0 : ¬ ((dd : Int) < 0) := by omega
        simp [seqIndex?, n0, hdd]
      · have h55 : upd H4 r (.lst (xs'.eraseIdx dd)) fo = some (.lst ys) := by
          rw [upd_ne (fun z => rf z.symm)]
          exact h54
        have tx5 : TEx H4 (upd H4 r (.lst (xs'.eraseIdx dd))) := tex_lst h34
        have tx6 : TEx (upd H4 r (.lst (xs'.eraseIdx dd))) (upd (upd H4 r (.lst (xs'.eraseIdx dd))) fo (.lst (ys ++ [x]))) := tex_lst h55
        have tx := (tx4.trans tx5).trans tx6
        refine ⟨fo, ys, x, rfl, rfl, h55, sz_lt (by rw [fzl_len h6]; omega), ⟨_, rfl⟩, ((eB.trans e4).mut hr1).mut hf0, ?_, rs.eraseIdx dd, es ++ [e], xs'.eraseIdx dd, _, ?_, ?_, upd_same, ?_, ?_, ?_⟩
        · obtain ⟨a, b, c, g1, g2⟩ := hP4
          refine ⟨a, b, c, ?_, g2⟩
          rw [upd_ne nf.symm, upd_ne np.symm]
          exact g1
        · rw [upd_ne rf]
          exact upd_same
        · exact FzL.mono tx _ _ (fzl_erase h4 dd)
        · exact fzl_append (FzL.mono tx _ _ h6) (fzl_cons (Fz.mono (tx5.trans tx6) _ _ fe) fzl_nil)
        · rw [List.length_append, h7]
          rfl
        · refine List.Perm.trans ?_ h8
          rw [List.append_assoc]
          exact List.Perm.append_left es (erase_perm he)
    · obtain ⟨⟨z, rfl⟩, eB, hP', rs, es, xs', ys, h3, h4, h5, h6, h7, h8⟩ := h
      refine s_ret (ev_var rfl) fun H4 e4 => k fo H4 es ys rs hf0 (eB.ex e4) (hP'.ex e4) (e4 _ _ h5) (fzl_ex e4 h6) h7 h8
/-- a row of all places drawn -/
def spPosn (K : PySem.W.Frag) : Sp := fun vs H Q _ => ∃ (p : Addr) (n m : Nat), vs = [.ref p, .int (m : Int)] ∧ PotAt H p n ∧ n < 900000 ∧ 1 ≤ m ∧ m ≤ 1000 ∧
  ∀ v H' pi, But p H H' → PotAt H' p (n + m + 1) → pi.Perm (List.range m) → Fz K H' (tN pi) v → Q v H'
theorem ok_posn (B : Bt mg) (o_law_take : Okd P w K mg base "_law_take" ["pot", "upto"] s_law_take 1 spTake) (o_law_some : Okd P w K mg base "_law_some" ["pot", "pool", "many"] s_law_some 2 (spSome K))
    (d : DefIn K mg "_law_position_drawn" ["pot", "many"] s_law_position_drawn) : Okd P w K mg base "_law_position_drawn" ["pot", "many"] s_law_position_drawn 3 (spPosn K) := by
  refine Okd.mk d sc_law_position_drawn (fun vs H Q E h => ?_) (fun f cdv A outer s H vs Q E hr h => ?_)
  · obtain ⟨p, n, m, rfl, _⟩ := h
    rfl
  · obtain ⟨p, n, m, rfl, hP, hn, hm1, hm2, k⟩ := h
    refine ⟨_, (pss_cons (ps_par (i := 2) (j := 3) (by rfl) sc_law_position_drawn.nd rfl rfl (by decide) rfl rfl (pa_cons (pe_fn o_law_take (hr.mono (by decide)) (pa_cons (pv 0) (pa_cons pe_int pa_nil))) (pa_cons (pe_listRg rfl (by rfl) B.list (prg_1 (by rfl) B.range (pv 1))) pa_nil)) (by rfl))
      (pss_cons (ps_if (pt_cmpR op_lt (pv 2) pe_int (nomark _)) (pss_one (ps_ret (pe_callTy call_tuple_of (by rfl) B.tuple boot_tuple (pa_cons (pe_lc (own := [("to", 9)]) rfl sc_law_position_drawn.nd (pi_list (pe_fn o_law_some (hr.mono (by decide)) (pa_cons (pv 0) (pa_cons (pv 3) (pa_cons (pv 1) pa_nil))))) (blkOk_by (own := [("to", 9)]) (N := N_law_position_drawn) (sc := defScope s_law_position_drawn) (by decide +kernel)) (fun _ _ _ _ _ => pg_name (i := 9) sc_law_position_drawn.nd rfl (Or.inl rfl)) (fun _ _ _ _ _ => pts_nil) (fun _ _ _ _ _ => (pe_callTy call_int1 (by rfl) B.int boot_int (pa_cons (pv 9) pa_nil)))) pa_nil)))) pss_nil)
      (pss_cons (ps_if (pt_cmpR op_eq (pv 2) pe_int (nomark _)) (pss_one (ps_ret (pe_callTy call_tuple_of (by rfl) B.tuple boot_tuple (pa_cons (pe_revL (pv 3)) pa_nil)))) pss_nil)
      (pss_cons (ps_set (i := 4) sc_law_position_drawn.nd rfl (Or.inl rfl) (pe_ifExp (pt_cmpR op_eq (pv 2) pe_int (nomark _)) (pv 1) (pe_callB (call_min2 rfl) (by rfl) B.min boot_min (pa_cons (pv 1) (pa_cons (pe_ix ix_list (pe_lst (pa_cons pe_int (pa_cons pe_int pa_nil))) (pe_op op_sub (pv 2) pe_int) (fun _ _ => rfl)) pa_nil)))))
      (pss_cons (ps_par (i := 5) (j := 6) (by rfl) sc_law_position_drawn.nd rfl rfl (by decide) rfl rfl (pa_cons (pe_ifExp (pt_cmpR op_lt (pv 2) pe_int (nomark _)) (pe_fn o_law_some (hr.mono (by decide)) (pa_cons (pv 0) (pa_cons (pv 3) (pa_cons (pv 4) pa_nil)))) (pv 3)) (pa_cons (pe_slice sl_list (pv 3) po_none po_none) pa_nil)) (by rfl))
      (pss_cons (ps_for PassesOwn.never rfl (pi_enum (by rfl) B.enumerate (pa_cons (pv 5) pa_nil)) (pg_tup (by rfl) (pgs_cons (pg_name (i := 7) sc_law_position_drawn.nd rfl (Or.inl rfl)) (pgs_cons (pg_name (i := 8) sc_law_position_drawn.nd rfl (Or.inl rfl)) pgs_nil))) (pss_one (ps_asg (pe_ix ix_list (pv 5) (pe_op op_mod (pe_op op_add (pv 7) pe_int) (pe_callB call_len_seq (by rfl) B.len boot_len (pa_cons (pv 5) pa_nil))) (fun _ _ => rfl)) (pg_sub (pv 6) (pv 8) set_list))))
      (pss_one (ps_ret (pe_callTy call_tuple_of (by rfl) B.tuple boot_tuple (pa_cons (pe_lc (own := [("to", 9)]) rfl sc_law_position_drawn.nd (pi_list (pv 6)) (blkOk_by (own := [("to", 9)]) (N := N_law_position_drawn) (sc := defScope s_law_position_drawn) (by decide +kernel)) (fun _ _ _ _ _ => pg_name (i := 9) sc_law_position_drawn.nd rfl (Or.inl rfl)) (fun _ _ _ _ _ => pts_nil) (fun _ _ _ _ _ => (pe_callTy call_int1 (by rfl) B.int boot_int (pa_cons (pv 9) pa_nil)))) pa_nil)))))))))), ?_⟩
    refine q_parM (c_cons (x_take (u := 6) (ev_var rfl) ev_c hP (by omega) (by decide) (by decide) fun dd H1 hdd e1 hP1 => c_cons (ev_listRg (K := K) (n := m) (ev_var rfl) (by omega) H1 (Ex.refl _) _ fun pl ys H2 hpl e2 h2 hys => c_nil ?_)))
    have hys' := fzl_nats.mp hys
    subst hys'
    refine ⟨_, _, rfl, ?_⟩
    have nlp : pl ≠ p := fresh_ne hP1 hpl
    have hpl0 : H pl = none := e1.fresh hpl nlp
    have eB2 : But p H H2 := e1.ex e2
    have hP2 := hP1.ex e2
    have hlen : (List.range m).length = m := List.length_range
    have tail : ∀ {σ : L2.St} {H3 : Hp} {a : Addr} {pi : List Nat} {xs : List V}, But p H H3 → PotAt H3 p (n + m + 1) → pi.Perm (List.range m) → SqL K H3 a xs → xs = vN pi → wipe σ [9] = σ → (∀ x, (σ.set 9 (some x))[9]? = some (some x)) → (∀ x, wipe (σ.set 9 (some x)) [9] = σ) →
        tLc (iList K (tC (.ref a))) (gName 9) tYes (tCB rInt1 (tCons (tVar 9) tNil)) [9] σ H3 (fun x H1 => tNil σ H1 fun xs H2 => rTupOf K (x :: xs) H2 Q) := fun {σ H3 a pi xs} eB hP hpi hx hxs hw hv hw2 => by
      subst hxs
      have hpl := perm_len hpi
      refine c_tupOf (ed_tupOf (ds := pi.map fun n : Nat => PyData.int (n : Int)) (el_mapL ev_c hx (fzl_nats.mpr rfl) (by rw [List.length_map]; omega) rfl (fun x => by rw [hw, hw2 x]) fun i x d e H1 e1 hd he f => ?_) H3 (Ex.refl _) Q fun v H4 e4 f => k v H4 pi (eB.ex e4) (hP.ex e4) hpi f)
      obtain ⟨z, _, rfl⟩ := tN_get hd
      rw [hd] at he
      cases (Option.some.inj he)
      have hxx := fz_intI f
      subst hxx
      rw [hw]
      exact ed_ev (ev_int1 (ev_var (hv _))) fz_int
    refine q_when (b := decide ((dd : Int) < 2)) (et_test (ev_op (ev_var rfl) ev_c rv_I0)) (fun hb H3 e3 => ?_) (fun hb H3 e3 => ?_)
    · refine s_retM (c_cb (c_cons (c_lcList (c_call (Evl.ea_cons (ev_var rfl) (Evl.ea_cons (ev_var rfl) (Evl.ea_cons (ev_var rfl) Evl.ea_nil)) H3 (Ex.refl _) _ fun H4 e4 => ⟨p, pl, n + 1, m, _, _, rfl, hP2.ex (e3.trans e4), by omega, sq_of (e4 _ _ (e3 _ _ h2)), fzl_nats.mpr rfl, by rw [List.length_map, hlen]; exact Nat.le_refl _, by rw [List.length_map, hlen]; exact hm2, fun r H5 es ys rs hr5 eB5 hP5 h5 hf5 hl5 hpm => ⟨r, rfl, ?_⟩⟩)))))
      obtain ⟨q1, q2⟩ := perm_ints hpm
      have hnd : (es.map gNat ++ rs.map gNat).Nodup := q2.nodup_iff.mpr List.nodup_range
      refine tail (pi := es.map gNat) ((eB2.ex (e3.trans e4)).trans eB5) (hP5.le (by omega)) (perm_of (List.nodup_append.mp hnd).1 (fun x hx => List.mem_range.mp (q2.subset (List.mem_append_left _ hx))) (by rw [List.length_map, hl5])) (sq_of h5) ?_ rfl (fun _ => rfl) (fun _ => rfl)
      rw [q1] at hf5
      exact fzl_nats.mp hf5
    · have hd2 : 2 ≤ dd := by
        have := of_decide_eq_false hb
        omega
      refine q_when (b := decide (V.int (dd : Int) = V.int 5)) (et_test (ev_op (ev_var rfl) ev_c (rv_eq rfl))) (fun hb5 H4 e4 => ?_) (fun hb5 H4 e4 => ?_)
      · have h4 := e4 _ _ (e3 _ _ h2)
        refine s_retM (c_cb (c_cons (ev_var rfl H4 (Ex.refl _) _ fun H5 e5 => ⟨pl, _, rfl, sq_of (e5 _ _ h4), fun q hq => c_nil ⟨q, _, rfl, .inl ⟨sq_of upd_same, fun l hl => ?_⟩⟩⟩)))
        refine k _ _ (List.range m).reverse ?_ ?_ (List.reverse_perm _) (fz_tN.mpr ⟨l, rfl, st_of ?_⟩)
        · exact eB2.ex (((e3.trans e4).trans e5).trans ((Ex.new hq).trans (Ex.new hl)))
        · exact (hP2.ex (((e3.trans e4).trans e5).trans ((Ex.new hq).trans (Ex.new hl)))).le (by omega)
        unfold vN
        rw [List.map_reverse]
        exact upd_same
      · have hd5 : dd < 5 := by
          have := of_decide_eq_false hb5
          have h5 : dd ≠ 5 := fun z => this (by rw [z]; rfl)
          omega
        have e34 := e3.trans e4
        refine q_asgX (P := fun v => ∃ s : Nat, v = .int (s : Int) ∧ s ≤ m ∧ 1 ≤ s) ?_ ?_
        · have hlst := fun {σ : L2.St} {H : Hp} => Evl.el_lst (σ := σ) (H := H) (vs := [.int 2, .int 3]) (Evl.ea_cons ev_c (Evl.ea_cons ev_c Evl.ea_nil)) (by decide)
          rcases (show dd = 4 ∨ dd = 2 ∨ dd = 3 by omega) with z | z | z
          · subst z
            exact ⟨_, ⟨m, rfl, Nat.le_refl _, hm1⟩, ev_if (b := true) (et_test (ev_is (ev_op (ev_var rfl) ev_c (rv_eq rfl)) rfl)) (fun _ => ev_var rfl) (fun z => nomatch z)⟩
          · subst z
            refine ⟨_, ⟨min m 2, ?_, Nat.min_le_left _ _, by omega⟩, ev_if (b := false) (et_test (ev_is (ev_op (ev_var rfl) ev_c (rv_eq rfl)) rfl)) (fun z => nomatch z) (fun _ => ev_min2 (ev_var rfl) (ev_opL1 hlst (fun H1 e => ev_op (ev_var rfl) ev_c rv_I0) fun q H1 hq _ => rv_ixL (sq_of hq) rfl))⟩
            congr 1
            split <;> omega
          · subst z
            refine ⟨_, ⟨min m 3, ?_, Nat.min_le_left _ _, by omega⟩, ev_if (b := false) (et_test (ev_is (ev_op (ev_var rfl) ev_c (rv_eq rfl)) rfl)) (fun z => nomatch z) (fun _ => ev_min2 (ev_var rfl) (ev_opL1 hlst (fun H1 e => ev_op (ev_var rfl) ev_c rv_I0) fun q H1 hq _ => rv_ixL (sq_of hq) rfl))⟩
            congr 1
            split <;> omega
        · rintro _ ⟨s, rfl, hs, hs1⟩ H5 e5
          have e35 := e34.trans e5
          have h5 := e35 _ _ h2
          have hP5 := hP2.ex e35
          refine q_parM (c_consX (P := fun v H6 => ∃ (ra : Addr) (ring : List Nat), v = .ref ra ∧ But p H H6 ∧ PotAt H6 p (n + m + 1) ∧ H6 ra = some (.lst (vN ring)) ∧ ra ≠ p ∧ H6 pl = some (.lst (vN (List.range m))) ∧ ring.Nodup ∧ (∀ x ∈ ring, x < m)) (fun Q2 hQ2 => ?_) ?_)
          · show tIf _ _ _ _ _ _
            by_cases h4 : dd < 4
            · refine (et_test (ev_is (ev_op (ev_var rfl) ev_c rv_I0) (by rw [decide_eq_true (show (dd : Int) < 4 by omega)]))) H5 (Ex.refl _) _ fun H6 e6 => iteT ?_
              refine c_call (Evl.ea_cons (ev_var rfl) (Evl.ea_cons (ev_var rfl) (Evl.ea_cons (ev_var rfl) Evl.ea_nil)) H6 (Ex.refl _) _ fun H7 e7 => ⟨p, pl, n + 1, s, _, _, rfl, hP5.ex (e6.trans e7), by omega, sq_of (e7 _ _ (e6 _ _ h5)), fzl_nats.mpr rfl, by rw [List.length_map, hlen]; exact hs, by rw [List.length_map, hlen]; exact hm2, fun r H8 es ys rs hr8 eB8 hP8 h8 hf8 hl8 hpm => ?_⟩)
              obtain ⟨q1, q2⟩ := perm_ints hpm
              have hnd : (es.map gNat ++ rs.map gNat).Nodup := q2.nodup_iff.mpr List.nodup_range
              rw [q1] at hf8
              refine hQ2 _ _ ⟨r, es.map gNat, rfl, (eB2.ex ((e35.trans e6).trans e7)).trans eB8, hP8.le (by omega), by rw [h8, fzl_nats.mp hf8], fresh_ne (hP5.ex (e6.trans e7)) hr8, eB8 _ _ nlp (e7 _ _ (e6 _ _ h5)), (List.nodup_append.mp hnd).1, fun x hx => List.mem_range.mp (q2.subset (List.mem_append_left _ hx))⟩
            · refine (et_test (ev_is (ev_op (ev_var rfl) ev_c rv_I0) (by rw [decide_eq_false (show ¬ (dd : Int) < 4 by omega)]))) H5 (Ex.refl _) _ fun H6 e6 => iteF ?_
              refine ev_var rfl H6 (Ex.refl _) _ fun H7 e7 => hQ2 _ _ ⟨pl, List.range m, rfl, eB2.ex ((e35.trans e6).trans e7), (hP5.ex (e6.trans e7)).le (by omega), e7 _ _ (e6 _ _ h5), nlp, e7 _ _ (e6 _ _ h5), List.nodup_range, fun x hx => List.mem_range.mp hx⟩
          · rintro _ H6 ⟨ra, ring, rfl, eB6, hP6, hra, nra, hpl6, nd, hrm⟩
            refine c_cons (Evl.el_sl (ev_var rfl) eo_none eo_none (sq_of hpl6) H6 (Ex.refl _) _ fun fo H7 hfo e7 h7 => c_nil ⟨_, _, rfl, ?_⟩)
            rw [cutV_all] at h7
            have nfo : fo ≠ p := fresh_ne hP6 hfo
            have hfo0 : H fo = none := eB6.fresh hfo nfo
            have nfr : fo ≠ ra := fun z => by
              rw [z, hra] at hfo
              cases hfo
            refine q_forEnL (ev_var rfl) (sq_of (e7 _ _ hra)) fun H8 e8 => ⟨fun i σ' H' => (∃ z7 z8, σ' = [some (.ref p), some (.int (m : Int)), some (.int (dd : Int)), some (.ref pl), some (.int (s : Int)), some (.ref ra), some (.ref fo), z7, z8, none]) ∧ But p H H' ∧ PotAt H' p (n + m + 1) ∧ H' ra = some (.lst (vN ring)) ∧
              ∃ F, H' fo = some (.lst (vN F)) ∧ F.length = m ∧ (∀ j a, j < i → ring[j]? = some a → F[a]? = ring[(j + 1) % ring.length]?) ∧ ∀ x, x < m → x ∉ ring → F[x]? = some x, ?_, ?_, ?_, ?_⟩
            · exact ⟨⟨none, none, rfl⟩, eB6.ex (e7.trans e8), hP6.ex (e7.trans e8), e8 _ _ (e7 _ _ hra), List.range m, e8 _ _ h7, hlen, fun j a hj => absurd hj (Nat.not_lt_zero _), fun x hx _ => List.getElem?_range hx⟩
            · rintro i σ' H' ⟨_, _, _, h, _⟩
              exact sq_of h
            · rintro i x σ' H' H'' hx eH ⟨⟨z7, z8, rfl⟩, eB, hP', hra', F, hF, hFl, i1, i2⟩
              rw [vN_get] at hx
              obtain ⟨a, ha, rfl⟩ : ∃ a, ring[i]? = some a ∧ x = .int (a : Int) := by
                cases z : ring[i]? with
                | none => rw [z] at hx; cases hx
                | some a => rw [z] at hx; exact ⟨a, rfl, (Option.some.inj hx).symm⟩
              have hil := (List.getElem?_eq_some_iff.mp ha).1
              have ham := hrm a (List.mem_of_getElem? ha)
              have hnl : (i + 1) % ring.length < ring.length := Nat.mod_lt _ (by omega)
              obtain ⟨b, hb⟩ : ∃ b, ring[(i + 1) % ring.length]? = some b := ⟨_, List.getElem?_eq_getElem hnl⟩
              have h9 := sq_of (K := K) (eH _ _ hra')
              refine s_setL (v := .int (b : Int)) (eH _ _ hF) (ev_op (ev_var rfl) (ev_is (ev_op (ev_op (ev_var rfl) ev_c rv_I0) (ev_len (ev_var rfl) h9) (rv_I ?_)) (w := .int (((i + 1) % ring.length : Nat) : Int)) ?_) (rv_ixL h9 (atI_of ?_))) (ev_var rfl) (ev_var rfl) (by rw [vN_len, hFl]; exact ham) fun H9 e9 => ?_
              · rw [vN_len]
                omega
              · rw [vN_len]
                rfl
              · rw [vN_get, hb]
                rfl
              · refine ⟨⟨_, _, rfl⟩, (eB.ex (eH.trans e9)).mut hfo0, ?_, ?_, F.set a b, ?_, by rw [List.length_set, hFl], fun j c hj hc => ?_, fun x hx hxr => ?_⟩
                · obtain ⟨a1, b1, c1, g1, g2⟩ := hP'.ex (eH.trans e9)
                  exact ⟨a1, b1, c1, by rw [upd_ne nfo.symm]; exact g1, g2⟩
                · rw [upd_ne nfr.symm]
                  exact e9 _ _ (eH _ _ hra')
                · unfold vN
                  rw [List.map_set]
                  exact upd_same
                · rw [List.getElem?_set]
                  by_cases hca : a = c
                  · subst hca
                    have hij : i = j := (List.getElem?_inj hil nd).mp (by rw [ha, hc])
                    subst hij
                    rw [if_pos rfl, if_pos (by omega), hb]
                  · rw [if_neg hca]
                    refine i1 j c ?_ hc
                    rcases Nat.lt_or_eq_of_le (Nat.le_of_lt_succ hj) with z | z
                    · exact z
                    · subst z
                      rw [ha] at hc
                      exact absurd (Option.some.inj hc) hca
                · rw [List.getElem?_set, if_neg (show ¬ a = x from fun z => hxr (z ▸ List.mem_of_getElem? ha))]
                  exact i2 x hx hxr
            · rintro σ' H' ⟨⟨z7, z8, rfl⟩, eB, hP', hra', F, hF, hFl, i1, i2⟩
              rw [vN_len] at i1
              refine s_retM (c_cb (c_cons (c_lcList (ev_var rfl H' (Ex.refl _) _ fun H9 e9 => ⟨fo, rfl, tail (pi := F) (eB.ex e9) (hP'.ex e9) (cyc_perm nd hrm hFl (fun j a h => i1 j a (List.getElem?_eq_some_iff.mp h).1 h) i2) (sq_of (e9 _ _ hF)) rfl rfl (fun _ => rfl) (fun _ => rfl)⟩))))
end
end WT
/-! Pictures drawn. -/
namespace WT
open PySem PySem.Spec PyProof.Rows L2 Evl
def Mk (F : List (List Nat)) : Prop := ∀ r ∈ F, ∀ x ∈ r, x ≤ 2
theorem mk_set {F : List (List Nat)} (h : Mk F) {a b x : Nat} {r : List Nat} (hr : F[a]? = some r) (hx : x ≤ 2) : Mk (F.set a (r.set b x)) := fun s hs y hy => by
  rcases List.mem_or_eq_of_mem_set hs with z | z
  · exact h s z y hy
  · subst z
    rcases List.mem_or_eq_of_mem_set hy with z | z
    · exact h r (List.mem_of_getElem? hr) y z
    · exact z ▸ hx
theorem mk_zero {k : Nat} : Mk (List.replicate k (List.replicate k 0)) := fun r hr x hx => by
  rw [List.eq_of_mem_replicate hr] at hx
  rw [List.eq_of_mem_replicate hx]
  exact Nat.zero_le _
theorem rN_zero {m : Nat} : rN (List.replicate m (List.replicate m 0)) = List.replicate m (List.replicate m (.int 0)) := by
  unfold rN rNs
  rw [List.map_replicate, List.map_replicate]
  rfl
theorem rNs_len (r : List Nat) : (rNs r).length = r.length := by
  unfold rNs
  rw [List.length_map]
/-- tuple([tuple(row) for row in rows]) -/
theorem ed_tupRows {K : PySem.W.Frag} {σ : L2.St} {H : Hp} {tl : TE} {j : Nat} {vs : List Nat} {p : Addr} {ps : List Addr} {F : List (List Nat)} (h : Ev tl σ H (.ref p)) (R : RowsP K H p ps (rN F)) (hF : F.length ≤ 1000) (hw : ∀ x, wipe ((wipe σ vs).set j (some x)) vs = wipe σ vs)
    (hv : ∀ q : V, ((wipe σ vs).set j (some q))[j]? = some (some q)) : Ed K (tCB (rTupOf K) (tCons (tLc (iList K tl) (gName j) tYes (tCB (rTupOf K) (tCons (tVar j) tNil)) vs) tNil)) σ H (tNN F) := by
  rw [tNN_rN]
  have hFl : (rN F).length = F.length := by
    unfold rN
    rw [List.length_map]
  refine ed_tupOf (el_is (el_lcRows (out := fun i => ((rN F).map PyData.tuple).take i) h R rfl (fun i hi => ?_) hw fun i q2 xs r H4 e4 hr hx hf => ⟨.tuple r, ed_tupOfL (ev_var (hv _)) (sq_of hx) hf, take_get (by rw [List.getElem?_map, hr]; rfl)⟩) (by rw [List.take_of_length_le (by rw [List.length_map]; exact Nat.le_refl _)]))
  rw [List.length_take]
  omega
/-- a picture drawn -/
def spPic (K : PySem.W.Frag) : Sp := fun vs H Q _ => ∃ (p : Addr) (n m : Nat), vs = [.ref p, .int (m : Int)] ∧ PotAt H p n ∧ n < 900000 ∧ 1 ≤ m ∧ m ≤ 5 ∧
  ∀ v H' k M, But p H H' → PotAt H' p (n + 60) → Pic k M → Fz K H' (tNN M) v → Q v H'
section
variable {P : Program} {w : World} {K : PySem.W.Frag} {mg : Str → Option Value} {base : Heap}
theorem ok_pic (B : Bt mg) (o_law_take : Okd P w K mg base "_law_take" ["pot", "upto"] s_law_take 1 spTake) (d : DefIn K mg "_law_picture_drawn" ["pot", "most"] s_law_picture_drawn) : Okd P w K mg base "_law_picture_drawn" ["pot", "most"] s_law_picture_drawn 2 (spPic K) := by
  refine Okd.mk d sc_law_picture_drawn (fun vs H Q E h => ?_) (fun f cdv A outer s H vs Q E hr h => ?_)
  · obtain ⟨p, n, m, rfl, _⟩ := h
    rfl
  · obtain ⟨p, n, mo, rfl, hP, hn, hm1, hm2, k⟩ := h
    refine ⟨_, (pss_cons (ps_asg (pe_tup (pa_cons (pe_op op_add pe_int (pe_fn o_law_take (hr.mono (by decide)) (pa_cons (pv 0) (pa_cons (pv 1) pa_nil)))) (pa_cons (pe_fn o_law_take (hr.mono (by decide)) (pa_cons (pv 0) (pa_cons pe_int pa_nil))) pa_nil))) (pg_tup (by rfl) (pgs_cons (pg_name (i := 2) sc_law_picture_drawn.nd rfl (Or.inr rfl)) (pgs_cons (pg_name (i := 3) sc_law_picture_drawn.nd rfl (Or.inl rfl)) pgs_nil))))
      (pss_cons (ps_setLc (i := 4) (own := [("place", 7)]) rfl sc_law_picture_drawn.nd rfl rfl (sw_true rfl rfl rfl (by decide +kernel)) (pi_range1 (by rfl) B.range (pa_cons (pv 2) pa_nil)) (blkOk_by (own := [("place", 7)]) (N := N_law_picture_drawn) (sc := defScope s_law_picture_drawn) (by decide +kernel)) (fun _ _ _ _ _ => pg_name (i := 7) sc_law_picture_drawn.nd rfl (Or.inl rfl)) (fun _ _ _ _ _ => pts_nil) (fun _ _ _ _ _ => (pe_op op_rep (pe_lst (pa_cons pe_int pa_nil)) (pv 2))))
      (pss_cons (ps_for PassesOwn.never rfl (pi_range1 (by rfl) B.range (pa_cons (pv 2) pa_nil)) (pg_name (i := 5) sc_law_picture_drawn.nd rfl (Or.inl rfl)) (pss_one (ps_for PassesOwn.never rfl (pi_range1 (by rfl) B.range (pa_cons (pv 2) pa_nil)) (pg_name (i := 6) sc_law_picture_drawn.nd rfl (Or.inl rfl)) (pss_cons (ps_if (pt_cmpR op_eq (pv 3) pe_int (nomark _)) (pss_one (ps_asg (pe_callTy call_int1 (by rfl) B.int boot_int (pa_cons (pe_fn o_law_take (hr.mono (by decide)) (pa_cons (pv 0) (pa_cons pe_int pa_nil))) pa_nil)) (pg_sub (pe_ix ix_list (pv 4) (pv 5) (fun _ _ => rfl)) (pv 6) set_list))) pss_nil)
          (pss_cons (ps_if (PW.pt (pw_and (pt_cmpR op_in_seq (pv 3) (pe_tup (pa_cons pe_int (pa_cons pe_int pa_nil))) (by rfl)) (pw_and1 (pt_cmpR op_lt (pv 5) (pv 6) (nomark _))))) (pss_cons (ps_asg (pe_callTy call_int1 (by rfl) B.int boot_int (pa_cons (pe_fn o_law_take (hr.mono (by decide)) (pa_cons (pv 0) (pa_cons pe_int pa_nil))) pa_nil)) (pg_sub (pe_ix ix_list (pv 4) (pv 5) (fun _ _ => rfl)) (pv 6) set_list))
            (pss_one (ps_asg (pe_ix ix_list (pe_ix ix_list (pv 4) (pv 5) (fun _ _ => rfl)) (pv 6) (fun _ _ => rfl)) (pg_sub (pe_ix ix_list (pv 4) (pv 6) (fun _ _ => rfl)) (pv 5) set_list)))) pss_nil)
          (pss_one (ps_if (pt_cmpR op_eq (pv 3) pe_int (nomark _)) (pss_one (ps_asg (pe_callTy call_int1 (by rfl) B.int boot_int (pa_cons (pe_cmpR op_in_seq (pe_op op_mod (pe_op op_sub (pv 5) (pv 6)) (pv 2)) (pe_tup (pa_cons pe_int (pa_cons (pe_op op_sub (pv 2) pe_int) pa_nil))) (by rfl)) pa_nil)) (pg_sub (pe_ix ix_list (pv 4) (pv 5) (fun _ _ => rfl)) (pv 6) set_list))) pss_nil)))))))
      (pss_one (ps_ret (pe_callTy call_tuple_of (by rfl) B.tuple boot_tuple (pa_cons (pe_lc (own := [("row", 8)]) rfl sc_law_picture_drawn.nd (pi_list (pv 4)) (blkOk_by (own := [("row", 8)]) (N := N_law_picture_drawn) (sc := defScope s_law_picture_drawn) (by decide +kernel)) (fun _ _ _ _ _ => pg_name (i := 8) sc_law_picture_drawn.nd rfl (Or.inl rfl)) (fun _ _ _ _ _ => pts_nil) (fun _ _ _ _ _ => (pe_callTy (cK (K := K) (r := rTupOf) call_tuple_of rfl) (by rfl) B.tuple boot_tuple (pa_cons (pv 8) pa_nil)))) pa_nil))))))), ?_⟩
    refine q_tupM (c_cons (c_op ?_))
    refine ev_c H (Ex.refl _) _ fun H0 e0 => ?_
    refine x_take (u := mo) (ev_var rfl) (ev_var rfl) (hP.ex e0) (by omega) hm1 (by omega) fun dd H1 hdd e1 hP1 => c_I0 (z := .int ((dd + 1 : Nat) : Int)) (by show V.int _ = V.int _; congr 1; omega) ?_
    refine c_cons (x_take (u := 5) (ev_var rfl) ev_c hP1 (by omega) (by decide) (by decide) fun kd H2' hkd e2' hP2' => c_nil ⟨sz_of (show 2 ≤ 100000 by decide), fun tp htp => g2_pair upd_same ?_⟩)
    generalize hmd : dd + 1 = m
    generalize hH2 : upd H2' tp _ = H2
    have e2x : Ex H2' H2 := by
      rw [← hH2]
      exact Ex.new htp
    have e2 := e2'.ex e2x
    have hP2 := hP2'.ex e2x
    have hm3 : 1 ≤ m := by omega
    have hm4 : m ≤ 5 := by omega
    have eB2 : But p H H2 := ((But.of e0).trans e1).trans e2
    refine q_asgR (K := K) (rss := List.replicate m (List.replicate m (.int 0))) (elr_is (er_lcRd (n := m) (out := fun i => List.replicate i (List.replicate m (.int 0))) (Evl.ea_cons (ev_var rfl) Evl.ea_nil) (by omega) rfl (fun i hi => by rw [List.length_replicate]; omega) (fun _ => rfl) fun i H1 e1 hi => ⟨_, el_rep (WT.el_lst (ea_d (ed_ev ev_c fz_int) ea_nil) (by decide)) (ev_var rfl) (by omega), ?_⟩) ?_) fun q qs H3 hq e3 R => ?_
    · rw [List.replicate_succ']
    · rfl
    · have hpq : p ∉ q :: qs := fun z => by
        obtain ⟨a, b, c, g, _⟩ := hP2
        rw [hq p z] at g
        cases g
      have hqH : ∀ x ∈ q :: qs, H x = none := fun x hx => eB2.fresh (hq x hx) (fun z => hpq (z ▸ hx))
      let J : Nat → Hp → Prop := fun c H' => ∃ F, RowsP K H' q qs (rN F) ∧ Sq m F ∧ Mk F ∧ But p H H' ∧ PotAt H' p c
      have Jex : ∀ {c : Nat} {H' H'' : Hp}, J c H' → Ex H' H'' → J c H'' := fun ⟨F, a1, a2, a3, a4, a5⟩ e => ⟨F, a1.ex e, a2, a3, a4.ex e, a5.ex e⟩
      have Jle : ∀ {c d : Nat} {H' : Hp}, J c H' → c ≤ d → J d H' := fun ⟨F, a1, a2, a3, a4, a5⟩ e => ⟨F, a1, a2, a3, a4, a5.le e⟩
      -- one mark set
      have Jset : ∀ {σ : L2.St} {c : Nat} {H' : Hp} {Nx : L2.St → Hp → Prop} {i j x : Nat} {te tb tc : TE}, J c H' → Ed K te σ H' (.int (x : Int)) → x ≤ 2 → σ[4]? = some (some (.ref q)) → Ev tb σ H' (.int (i : Int)) → Ev tc σ H' (.int (j : Int)) → i < m → j < m →
          (∀ H2, J c H2 → Nx σ H2) → te σ H' fun v H1 => gSub (tOp (rIxL K) (tVar 4) tb) tc rSetL v σ H1 Nx := fun {σ c H' Nx i j x te tb tc} hJ he hx h4 hi hj him hjm kk => by
        obtain ⟨F, RF, sqF, mkF, eB, hPc⟩ := hJ
        obtain ⟨row, hrow, hrowl, _⟩ := sqF.get him
        refine s_setRow (Dn := { nx := Nx, rt := fun _ _ => True }) RF he (ev_var h4) hi hj (rN_get hrow) (by rw [rNs_len, hrowl]; exact hjm) fun H6 q' xs v hq' e6 h6 R6 => kk _ ⟨F.set i (row.set j x), ?_, sq_set sqF hrow, mk_set mkF hrow hx, (eB.ex e6).mut (hqH q' (List.mem_cons_of_mem _ hq')), ?_⟩
        · rw [← rN_set]
          exact R6
        · obtain ⟨a1, b1, c1, g1, g2⟩ := hPc.ex e6
          exact ⟨a1, b1, c1, by rw [upd_ne (show p ≠ q' from fun z => hpq (z ▸ List.mem_cons_of_mem _ hq'))]; exact g1, g2⟩
      -- a draw
      have Jbut : ∀ {c : Nat} {H' H'' : Hp}, J c H' → But p H' H'' → PotAt H'' p (c + 1) → J (c + 1) H'' := fun {c H' H''} ⟨F, a1, a2, a3, a4, a5⟩ e hp => ⟨F, a1.but (a5.tex e) e hpq, a2, a3, a4.trans e, hp⟩
      refine q_forR1 (n := (m : Int)) (Evl.ea_cons (ev_var rfl) Evl.ea_nil) ⟨by omega, by omega⟩ (fun i σ' H' => (∃ z5 z6, σ' = [some (.ref p), some (.int (mo : Int)), some (.int (m : Int)), some (.int (kd : Int)), some (.ref q), z5, z6, none, none]) ∧ J (n + 2 + 10 * i) H') (fun H4 e4 => ?_) (fun i σ' H' hi h => ?_) (fun σ' H' h => ?_)
      · refine ⟨⟨none, none, rfl⟩, List.replicate m (List.replicate m 0), ?_, sq_zero, mk_zero, eB2.ex (e3.trans e4), (hP2.ex (e3.trans e4)).le (by omega)⟩
        rw [rN_zero]
        exact R.ex e4
      · obtain ⟨⟨z5, z6, rfl⟩, hJ⟩ := h
        have him : i < m := by omega
        refine s_forR1 (n := (m : Int)) (Evl.ea_cons (ev_var rfl) Evl.ea_nil) ⟨by omega, by omega⟩ (fun j σ' H' => (∃ z6, σ' = [some (.ref p), some (.int (mo : Int)), some (.int (m : Int)), some (.int (kd : Int)), some (.ref q), some (.int (i : Int)), z6, none, none]) ∧ J (n + 2 + 10 * i + 2 * j) H') (fun H4 e4 => ⟨⟨z6, rfl⟩, Jex hJ e4⟩) (fun j σ' H4 hj h => ?_) (fun σ' H4 h => ?_)
        · obtain ⟨⟨z6, rfl⟩, hJ4⟩ := h
          have hjm : j < m := by omega
          refine q_whenJ (b := decide (V.int (kd : Int) = V.int 0)) (J (n + 2 + 10 * i + 2 * j + 1)) (et_test (ev_op (ev_var rfl) ev_c (rv_eq rfl))) (fun _ H5 e5 Nx hNx => ?_) (fun _ H5 e5 => Jle (Jex hJ4 e5) (by omega)) fun H5 hJ5 => ?_
          · refine s_asgM (c_cb (c_cons (x_take (u := 3) (ev_var rfl) ev_c (by obtain ⟨F, a1, a2, a3, a4, a5⟩ := Jex hJ4 e5; exact a5) (by omega) (by decide) (by decide) fun x H6 hx e6 hP6 => c_nil (.inl ⟨_, rfl, ?_⟩))))
            exact Jset (te := tC (.int (x : Int))) (Jbut (Jex hJ4 e5) e6 hP6) (ed_ev ev_c fz_int) (by omega) rfl (ev_var rfl) (ev_var rfl) him hjm hNx
          · have hcond : EvT _ [some (V.ref p), some (.int (mo : Int)), some (.int (m : Int)), some (.int (kd : Int)), some (.ref q), some (.int (i : Int)), some (.int (j : Int)), none, none] H5 (inV (.int (kd : Int)) [.int 1, .int 2] && decide ((i : Int) < (j : Int))) :=
              et_and (et_test (ev_inU (K := K) (ev_var (i := 3) rfl) (eu_tup (Evl.ea_cons ev_c (Evl.ea_cons ev_c Evl.ea_nil)) (show 2 ≤ 100000 by decide)) rfl rfl)) fun _ => et_test (ev_op (ev_var (i := 5) rfl) (ev_var (i := 6) rfl) (rv_I0 (g := fun i j => .bl (decide (i < j)))))
            refine q_whenJ (J (n + 2 + 10 * i + 2 * j + 2)) hcond (fun hb H6 e6 Nx hNx => ?_) (fun _ H6 e6 => Jle (Jex hJ5 e6) (by omega)) fun H6 hJ6 => ?_
            · refine q_asgM (c_cb (c_cons (x_take (u := 2) (ev_var rfl) ev_c (by obtain ⟨F, a1, a2, a3, a4, a5⟩ := Jex hJ5 e6; exact a5) (by omega) (by decide) (by decide) fun x H7 hx e7 hP7 => c_nil (.inl ⟨_, rfl, ?_⟩))))
              refine Jset (σ := [some (V.ref p), some (.int (mo : Int)), some (.int (m : Int)), some (.int (kd : Int)), some (.ref q), some (.int (i : Int)), some (.int (j : Int)), none, none]) (tb := tVar 5) (tc := tVar 6) (te := tC (.int (x : Int))) (Jbut (Jex hJ5 e6) e7 hP7) (ed_ev ev_c fz_int) (by omega) rfl (ev_var rfl) (ev_var rfl) him hjm fun H8 hJ8 => ?_
              obtain ⟨F, RF, sqF, mkF, eB, hPc⟩ := hJ8
              obtain ⟨row, hrow, hrowl, _⟩ := sqF.get him
              have hat := sqF.at hrow hjm
              have hedge : at2 F i j ≤ 2 := mkF row (List.mem_of_getElem? hrow) _ (List.mem_of_getElem? hat)
              exact s_asgM (Jset (x := at2 F i j) ⟨F, RF, sqF, mkF, eB, hPc⟩ (ed_rowAt2 RF (ev_var rfl) (ev_var rfl) (ev_var rfl) (rN_get hrow) (by unfold rNs; rw [List.getElem?_map, hat]; rfl)) hedge rfl (ev_var rfl) (ev_var rfl) hjm him hNx)
            · refine s_whenJ (b := decide (V.int (kd : Int) = V.int 3)) (J (n + 2 + 10 * i + 2 * j + 2)) (et_test (ev_op (ev_var rfl) ev_c (rv_eq rfl))) (fun _ H7 e7 Nx hNx => ?_) (fun _ H7 e7 => Jex hJ6 e7) fun H7 hJ7 => ⟨⟨_, rfl⟩, Jle hJ7 (by omega)⟩
              have hin : Ev _ [some (V.ref p), some (.int (mo : Int)), some (.int (m : Int)), some (.int (kd : Int)), some (.ref q), some (.int (i : Int)), some (.int (j : Int)), none, none] H7 (.bl (inV (.int (((i : Int) - (j : Int)) % (m : Int))) [.int 1, .int ((m : Int) - 1)])) :=
                ev_inU (K := K) (ev_op (ev_op (ev_var (i := 5) rfl) (ev_var (i := 6) rfl) (rv_I0 (g := fun i j => .int (i - j)))) (ev_var (i := 2) rfl) (rv_I (g := fun i j => .int (i % j)) (C := fun _ j => 0 < j) (show (0 : Int) < (m : Int) by omega))) (eu_tup (Evl.ea_cons ev_c (Evl.ea_cons (ev_op (ev_var (i := 2) rfl) ev_c (rv_I0 (g := fun i j => .int (i - j)))) Evl.ea_nil)) (show 2 ≤ 100000 by decide)) rfl rfl
              have hint := ev_intB hin
              refine s_asgM (Jset (x := if inV (.int (((i : Int) - (j : Int)) % (m : Int))) [.int 1, .int ((m : Int) - 1)] then 1 else 0) (Jex hJ6 e7) (ed_ev hint ?_) (by split <;> omega) rfl (ev_var rfl) (ev_var rfl) him hjm hNx)
              cases inV (.int (((i : Int) - (j : Int)) % (m : Int))) [.int 1, .int ((m : Int) - 1)]
              · exact fz_int
              · exact fz_int
        · obtain ⟨⟨z6, rfl⟩, hJ4⟩ := h
          exact ⟨⟨_, _, rfl⟩, Jle hJ4 (by omega)⟩
      · obtain ⟨⟨z5, z6, rfl⟩, F, RF, sqF, mkF, eB, hPc⟩ := h
        refine s_retD (ed_tupRows (ev_var rfl) RF (by rw [sqF.len]; omega) (fun _ => rfl) fun _ => rfl) fun v H4 e4 f => k v H4 m F (eB.ex e4) ((hPc.ex e4).le (by omega)) ⟨hm3, hm4, sqF.len, sqF.row, mkF⟩ f
/-- a picture near one: a mark turned or two rows swapped -/
def spNear (K : PySem.W.Frag) : Sp := fun vs H Q _ => ∃ (p : Addr) (n k : Nat) (y : V) (M : List (List Nat)), vs = [.ref p, y] ∧ PotAt H p n ∧ n < 900000 ∧ Pic k M ∧ Fz K H (tNN M) y ∧
  ∀ v H' M', But p H H' → PotAt H' p (n + 3) → Pic k M' → Fz K H' (tNN M') v → Q v H'
theorem ok_near (B : Bt mg) (o_law_take : Okd P w K mg base "_law_take" ["pot", "upto"] s_law_take 1 spTake) (d : DefIn K mg "_law_near" ["pot", "picture"] s_law_near) : Okd P w K mg base "_law_near" ["pot", "picture"] s_law_near 2 (spNear K) := by
  refine Okd.mk d sc_law_near (fun vs H Q E h => ?_) (fun f cdv A outer s H vs Q E hr h => ?_)
  · obtain ⟨p, n, k, y, M, rfl, _⟩ := h
    rfl
  · obtain ⟨p, n, m, y, M, rfl, hP, hn, hM, hy, k⟩ := h
    have hm1 := hM.pos
    have hm2 := hM.le
    have hl := hM.len
    refine ⟨_, (pss_cons (ps_setLc (i := 2) (own := [("row", 5)]) rfl sc_law_near.nd rfl rfl (sw_true rfl rfl rfl (by decide +kernel)) (pi_tup (pv 1)) (blkOk_by (own := [("row", 5)]) (N := N_law_near) (sc := defScope s_law_near) (by decide +kernel)) (fun _ _ _ _ _ => pg_name (i := 5) sc_law_near.nd rfl (Or.inl rfl)) (fun _ _ _ _ _ => pts_nil) (fun _ _ _ _ _ => (pe_callTy (cK (K := K) (r := rListS) call_list_of rfl) (by rfl) B.list boot_list (pa_cons (pv 5) pa_nil))))
      (pss_cons (ps_par (i := 3) (j := 4) (by rfl) sc_law_near.nd rfl rfl (by decide) rfl rfl (pa_cons (pe_fn o_law_take (hr.mono (by decide)) (pa_cons (pv 0) (pa_cons (pe_callB call_len_seq (by rfl) B.len boot_len (pa_cons (pv 2) pa_nil)) pa_nil))) (pa_cons (pe_fn o_law_take (hr.mono (by decide)) (pa_cons (pv 0) (pa_cons (pe_callB call_len_seq (by rfl) B.len boot_len (pa_cons (pv 2) pa_nil)) pa_nil))) pa_nil)) (by rfl))
      (pss_cons (ps_if (pt_cmpR op_eq (pe_fn o_law_take (hr.mono (by decide)) (pa_cons (pv 0) (pa_cons pe_int pa_nil))) pe_int (nomark _)) (pss_one (ps_asg (pe_op op_mod (pe_op op_add (pe_ix ix_list (pe_ix ix_list (pv 2) (pv 3) (fun _ _ => rfl)) (pv 4) (fun _ _ => rfl)) pe_int) pe_int) (pg_sub (pe_ix ix_list (pv 2) (pv 3) (fun _ _ => rfl)) (pv 4) set_list))) (pss_one (ps_asg (pe_tup (pa_cons (pe_ix ix_list (pv 2) (pv 4) (fun _ _ => rfl)) (pa_cons (pe_ix ix_list (pv 2) (pv 3) (fun _ _ => rfl)) pa_nil))) (pg_tup (by rfl) (pgs_cons (pg_sub (pv 2) (pv 3) set_list) (pgs_cons (pg_sub (pv 2) (pv 4) set_list) pgs_nil))))))
      (pss_one (ps_ret (pe_callTy call_tuple_of (by rfl) B.tuple boot_tuple (pa_cons (pe_lc (own := [("row", 5)]) rfl sc_law_near.nd (pi_list (pv 2)) (blkOk_by (own := [("row", 5)]) (N := N_law_near) (sc := defScope s_law_near) (by decide +kernel)) (fun _ _ _ _ _ => pg_name (i := 5) sc_law_near.nd rfl (Or.inl rfl)) (fun _ _ _ _ _ => pts_nil) (fun _ _ _ _ _ => (pe_callTy (cK (K := K) (r := rTupOf) call_tuple_of rfl) (by rfl) B.tuple boot_tuple (pa_cons (pv 5) pa_nil)))) pa_nil))))))), ?_⟩
    refine q_asgR (K := K) (rss := rN M) (elr_is (er_lcTd (out := fun i => (rN M).take i) (ed_var rfl hy) rfl (fun i hi => ?_) (fun _ => rfl) fun i x d H1 e1 hd f => ?_) ?_) fun q qs H1 hq e1 R => ?_
    · rw [List.length_map] at hi
      rw [List.length_take]
      omega
    · obtain ⟨r, hr, rfl⟩ := map_get hd
      exact ⟨rNs r, el_listOfT (ed_var rfl f), take_get (rN_get hr)⟩
    · rw [List.length_map, List.take_of_length_le (by unfold rN; rw [List.length_map]; exact Nat.le_refl _)]
    · have hpq : p ∉ q :: qs := fun z => by
        obtain ⟨a, b, c, g, _⟩ := hP
        rw [hq p z] at g
        cases g
      have hqs : qs.length = m := by
        rw [R.rows.len]
        unfold rN
        rw [List.length_map, hl]
      have hlen : ∀ {σ : L2.St} {H' : Hp}, σ[2]? = some (some (.ref q)) → H' q = some (.lst (qs.map V.ref)) → Ev (tCB (rLenS K) (tCons (tVar 2) tNil)) σ H' (.int (m : Int)) := fun h2 hH => ev_is (ev_len (ev_var h2) (sq_of hH)) (by rw [List.length_map, hqs])
      have hP1 := hP.ex e1
      refine q_parM (c_cons (x_take (u := m) (ev_var rfl) (hlen rfl R.outer) hP1 (by omega) hm1 (by omega) fun a H2 ha e2 hP2 => ?_))
      have R2 := R.but (hP1.tex e2) e2 hpq
      refine c_cons (x_take (u := m) (ev_var rfl) (hlen rfl R2.outer) hP2 (by omega) hm1 (by omega) fun b H3 hb e3 hP3 => c_nil ⟨_, _, rfl, ?_⟩)
      have R3 := R2.but (hP2.tex e3) e3 hpq
      have eB3 : But p H H3 := ((But.of e1).trans e2).trans e3
      have eB3x : ∀ x ∈ q :: qs, x ≠ p := fun x hx z => hpq (z ▸ hx)
      refine q_ifMX (fun H4 => ∃ F ps, RowsP K H4 q ps (rN F) ∧ Pic m F ∧ But p H H4 ∧ PotAt H4 p (n + 3)) (fun Nx hNx => c_test (c_op (x_take (u := 2) (ev_var rfl) ev_c hP3 (by omega) (by decide) (by decide) fun c H4 hc e4 hP4 => ?_))) ?_
      · have R4 := R3.but (hP3.tex e4) e4 hpq
        have eB4 : But p H H4 := eB3.trans e4
        refine ev_c H4 (Ex.refl _) _ fun H5 e5 => ⟨rfl, _, rfl, ?_⟩
        have R5 := R4.ex e5
        have eB5 := eB4.ex e5
        have hP5 := hP4.ex e5
        obtain ⟨ra, hra, hral, _⟩ := hM.sq.get ha
        obtain ⟨rb, hrb, hrbl, _⟩ := hM.sq.get hb
        by_cases hc0 : V.int (c : Int) = V.int 0
        · rw [decide_eq_true hc0]
          refine iteT ?_
          have hat := hM.sq.at hra hb
          refine s_setRow (d := .int (((at2 M a b + 1) % 3 : Nat) : Int)) R5 (ed_ev (ev_is (ev_op (ev_op (ev_int (ed_rowAt2 R5 (ev_var rfl) (ev_var rfl) (ev_var rfl) (rN_get hra) (show (rNs ra)[b]? = some (.int ((at2 M a b : Nat) : Int)) by unfold rNs; rw [List.getElem?_map, hat]; rfl))) ev_c rv_I0) ev_c (rv_I ?_)) rfl) fz_int) (ev_var rfl) (ev_var rfl) (ev_var rfl) (rN_get hra) (by rw [rNs_len, hral]; exact hb) fun H6 q' xs v hq' e6 h6 R6 => hNx _ ⟨M.set a (ra.set b ((at2 M a b + 1) % 3)), qs, ?_, ?_, ?_, ?_⟩
          · decide
          · rw [← rN_set]
            exact R6
          · have s1 := sq_set (x := (at2 M a b + 1) % 3) (b := b) hM.sq hra
            exact ⟨hm1, hm2, s1.len, s1.row, mk_set hM.mark hra (by omega)⟩
          · exact (eB5.ex e6).mut (hq q' (List.mem_cons_of_mem _ hq'))
          · obtain ⟨a1, b1, c1, g1, g2⟩ := hP5.ex e6
            exact ⟨a1, b1, c1, by rw [upd_ne (show p ≠ q' from fun z => hpq (z ▸ List.mem_cons_of_mem _ hq'))]; exact g1, g2⟩
        · rw [decide_eq_false hc0]
          refine iteF ?_
          obtain ⟨qa, xa, hqa, hxa, hfa⟩ := R5.rows.get (rN_get hra)
          obtain ⟨qb, xb, hqb, hxb, hfb⟩ := R5.rows.get (rN_get hrb)
          refine s_tupM (Evl.ea_cons (ev_rowAt R5 (ev_var rfl) (ev_var rfl) hqb) (Evl.ea_cons (ev_rowAt R5 (ev_var rfl) (ev_var rfl) hqa) Evl.ea_nil) H5 (Ex.refl _) _ fun H6 e6 => ⟨sz_of (show 2 ≤ 100000 by decide), fun tp htp => ?_⟩)
          generalize hH7 : upd H6 tp (.tup [.ref qb, .ref qa]) = H7
          have e7 : Ex H5 H7 := by
            rw [← hH7]
            exact e6.trans (Ex.new htp)
          have h7 : H7 tp = some (.tup [.ref qb, .ref qa]) := by
            rw [← hH7]
            exact upd_same
          have R7 := R5.ex e7
          have hqam := List.mem_of_getElem? hqa
          have hqbm := List.mem_of_getElem? hqb
          refine ⟨tp, _, rfl, st_of h7, rfl, _, _, rfl, ?_⟩
          refine ev_var rfl H7 (Ex.refl _) _ fun H8 e8 => ev_var rfl H8 (Ex.refl _) _ fun H9 e9 => ⟨q, qs.map V.ref, (a : Int), a, rfl, rfl, e9 _ _ (e8 _ _ R7.outer), ixN_nat (by rw [List.length_map, hqs]; exact ha), _, _, rfl, ?_⟩
          have R9 := R7.ex (e8.trans e9)
          have e59 : Ex H5 H9 := e7.trans (e8.trans e9)
          generalize hG : upd H9 q (.lst ((qs.map V.ref).set a (.ref qb))) = G
          have hGq : G q = some (.lst ((qs.map V.ref).set a (.ref qb))) := by
            rw [← hG]
            exact upd_same
          refine ev_var rfl G (Ex.refl _) _ fun G1 g1 => ev_var rfl G1 (Ex.refl _) _ fun G2 g2 => ⟨q, (qs.map V.ref).set a (.ref qb), (b : Int), b, rfl, rfl, g2 _ _ (g1 _ _ hGq), ixN_nat (by rw [List.length_set, List.length_map, hqs]; exact hb), rfl, ?_⟩
          have gg : But q H9 G2 := by
            refine But.ex ?_ (g1.trans g2)
            rw [← hG]
            exact But.put
          have ndq := List.nodup_cons.mp R9.nd
          have tx1 : TEx H9 G := by
            rw [← hG]
            exact tex_lst R9.outer
          have tx2 : TEx H9 (upd G2 q (.lst (((qs.map V.ref).set a (.ref qb)).set b (.ref qa)))) := (tx1.trans (tex_of (g1.trans g2))).trans (tex_lst (g2 _ _ (g1 _ _ hGq)))
          have gg2 : But q H9 (upd G2 q (.lst (((qs.map V.ref).set a (.ref qb)).set b (.ref qa)))) := gg.trans But.put
          have rows := R9.rows.keep tx2 fun z hz o ho => gg2 z o (fun w => ndq.1 (w ▸ hz)) ho
          have nqa : qa ≠ q := fun w => ndq.1 (w ▸ hqam)
          have nqb : qb ≠ q := fun w => ndq.1 (w ▸ hqbm)
          refine hNx _ ⟨(M.set a rb).set b ra, (qs.set a qb).set b qa, ⟨?_, ?_, ?_⟩, ⟨hm1, hm2, by rw [List.length_set, List.length_set, hl], fun r hr => hM.row r (swap_mem hra hrb hr), fun r hr => hM.mark r (swap_mem hra hrb hr)⟩, ?_, ?_⟩
          · rw [List.map_set, List.map_set]
            exact upd_same
          · exact List.nodup_cons.mpr ⟨fun w => ndq.1 (swap_mem hqa hqb w), swap_nd ndq.2 hqa hqb⟩
          · have e1 : rN ((M.set a rb).set b ra) = ((rN M).set a (rNs rb)).set b (rNs ra) := by
              unfold rN
              rw [List.map_set, List.map_set]
            rw [e1]
            exact RowsL.setRef b (RowsL.setRef a rows ⟨xb, gg2 _ _ nqb (e59 _ _ hxb), FzL.mono ((tex_of e59).trans tx2) _ _ hfb⟩) ⟨xa, gg2 _ _ nqa (e59 _ _ hxa), FzL.mono ((tex_of e59).trans tx2) _ _ hfa⟩
          · have := ((eB5.ex e59).mut (o := .lst ((qs.map V.ref).set a (.ref qb))) (hq q List.mem_cons_self))
            rw [hG] at this
            exact (this.ex (g1.trans g2)).mut (hq q List.mem_cons_self)
          · obtain ⟨a1, b1, c1, z1, z2⟩ := hP5.ex e59
            exact ⟨a1, b1, c1, gg2 _ _ (eB3x q List.mem_cons_self).symm z1, z2⟩
      · rintro H4 ⟨F, ps, RF, hF, eB, hPc⟩
        refine s_retD (ed_tupRows (ev_var rfl) RF (by rw [hF.len]; omega) (fun _ => rfl) fun _ => rfl) fun v H5 e5 f => k v H5 F (eB.ex e5) (hPc.ex e5) hF f
end
end WT
/-! The least orders of a picture: the plain law. -/
namespace WT
open PySem PySem.Spec PyProof.Rows L2 Evl
theorem snoc_ind {α : Type} {P : List α → Prop} (h0 : P []) (h1 : ∀ l a, P l → P (l ++ [a])) (l : List α) : P l := by
  have h : ∀ r : List α, P r.reverse := fun r => by
    induction r with
    | nil => exact h0
    | cons a r ih =>
      rw [List.reverse_cons]
      exact h1 _ _ ih
  have := h l.reverse
  rw [List.reverse_reverse] at this
  exact this
/-- the order of rows of naturals -/
def ltN (a b : List Nat) : Bool := HT.lexLt (a.map fun n : Nat => (n : Int)) (b.map fun n : Nat => (n : Int))
theorem ltN_nil_cons (b : Nat) (r : List Nat) : ltN [] (b :: r) = true := rfl
theorem ltN_nil (a : List Nat) : ltN a [] = false := by cases a <;> rfl
theorem ltN_cons (a b : Nat) (r s : List Nat) : ltN (a :: r) (b :: s) = (decide (a < b) || (decide (a = b) && ltN r s)) := by
  show HT.lexLt ((a : Int) :: _) ((b : Int) :: _) = _
  rw [HT.lexLt_cons]
  by_cases e : a = b
  · subst e
    rw [if_pos rfl]
    simp [ltN]
  · rw [if_neg (show ¬ (a : Int) = (b : Int) by omega)]
    have e1 : decide ((a : Int) < (b : Int)) = decide (a < b) := decide_eq_decide.mpr (by omega)
    rw [e1]
    simp [e]
theorem ltN_irr : ∀ a : List Nat, ltN a a = false
  | [] => rfl
  | a :: r => by rw [ltN_cons, ltN_irr r]; simp
theorem ltN_trans : ∀ {a b c : List Nat}, ltN a b = true → ltN b c = true → ltN a c = true
  | a, b, [], _, h => by rw [ltN_nil] at h; cases h
  | [], _, c :: t, _, _ => rfl
  | a :: r, [], c :: t, h, _ => by rw [ltN_nil] at h; cases h
  | a :: r, b :: s, c :: t, h, k => by
    rw [ltN_cons] at h k ⊢
    simp only [Bool.or_eq_true, Bool.and_eq_true, decide_eq_true_eq] at h k ⊢
    rcases h with h | ⟨h1, h2⟩
    · rcases k with k | ⟨k1, k2⟩
      · exact .inl (by omega)
      · exact .inl (by omega)
    · rcases k with k | ⟨k1, k2⟩
      · exact .inl (by omega)
      · exact .inr ⟨by omega, ltN_trans h2 k2⟩
theorem ltN_tri : ∀ {a b : List Nat}, ltN a b = false → a = b ∨ ltN b a = true
  | [], [], _ => .inl rfl
  | [], b :: s, h => by cases h
  | a :: r, [], _ => .inr rfl
  | a :: r, b :: s, h => by
    rw [ltN_cons] at h ⊢
    simp only [Bool.or_eq_false_iff, Bool.and_eq_false_iff, decide_eq_false_iff_not, Bool.or_eq_true, Bool.and_eq_true, decide_eq_true_eq] at h ⊢
    obtain ⟨h1, h2⟩ := h
    by_cases e : a = b
    · subst e
      rcases h2 with h2 | h2
      · exact absurd rfl h2
      · rcases ltN_tri h2 with h3 | h3
        · exact .inl (by rw [h3])
        · exact .inr (.inr ⟨rfl, h3⟩)
    · exact .inr (.inl (by omega))
/-- what a place p tells, after the places o -/
def tells (M : List (List Nat)) (o : List Nat) (p : Nat) : List Nat := (o.flatMap fun c => [at2 M p c, at2 M c p]) ++ [at2 M p p]
/-- the places not chosen -/
def rest (k : Nat) (o : List Nat) : List Nat := (List.range k).filter fun p => !decide (p ∈ o)
def cand1 (k : Nat) (M : List (List Nat)) (o : List Nat) : List (List Nat × List Nat) := (rest k o).map fun p => (tells M o p, o ++ [p])
def cand (k : Nat) (M : List (List Nat)) (os : List (List Nat)) : List (List Nat × List Nat) := os.flatMap (cand1 k M)
def step1 (s : Option (List Nat) × List (List Nat)) (c : List Nat × List Nat) : Option (List Nat) × List (List Nat) :=
  let s1 := if (match s.1 with | none => true | some b => ltN c.1 b) = true then (some c.1, []) else s
  if some c.1 = s1.1 then (s1.1, s1.2 ++ [c.2]) else s1
def scan (cs : List (List Nat × List Nat)) : Option (List Nat) × List (List Nat) := cs.foldl step1 (none, [])
def lapF (k : Nat) (M : List (List Nat)) (s : List Nat × List (List Nat)) : List Nat × List (List Nat) := (s.1 ++ (scan (cand k M s.2)).1.getD [], (scan (cand k M s.2)).2)
def laps (k : Nat) (M : List (List Nat)) : Nat → List Nat × List (List Nat)
  | 0 => ([], [[]])
  | t + 1 => lapF k M (laps k M t)
theorem scan_snoc (cs : List (List Nat × List Nat)) (c : List Nat × List Nat) : scan (cs ++ [c]) = step1 (scan cs) c := by
  unfold scan
  rw [List.foldl_append]
  rfl
/-- m is the least of what is told -/
def Least (cs : List (List Nat × List Nat)) (m : List Nat) : Prop := (∃ c ∈ cs, c.1 = m) ∧ ∀ c ∈ cs, c.1 = m ∨ ltN m c.1 = true
theorem least_one {cs ds : List (List Nat × List Nat)} {m n : List Nat} (h : Least cs m) (k : Least ds n) (e : ∀ t, (∃ c ∈ cs, c.1 = t) ↔ ∃ c ∈ ds, c.1 = t) : m = n := by
  obtain ⟨c, hc, hcm⟩ := (e m).mp h.1
  obtain ⟨d, hd, hdn⟩ := (e n).mpr k.1
  rcases k.2 c hc with z | z
  · rw [← hcm, z]
  · rcases h.2 d hd with y | y
    · rw [← hdn, y]
    · rw [hcm] at z
      rw [hdn] at y
      have := ltN_trans z y
      rw [ltN_irr] at this
      cases this
/-- the scan finds the least, and all that tell it -/
theorem scan_least : ∀ (cs : List (List Nat × List Nat)), (cs = [] → scan cs = (none, [])) ∧ (cs ≠ [] → ∃ m, (scan cs).1 = some m ∧ Least cs m ∧ (scan cs).2 = (cs.filter fun c => decide (c.1 = m)).map Prod.snd) := by
  intro cs
  refine snoc_ind (P := fun cs => (cs = [] → scan cs = (none, [])) ∧ (cs ≠ [] → ∃ m, (scan cs).1 = some m ∧ Least cs m ∧ (scan cs).2 = (cs.filter fun c => decide (c.1 = m)).map Prod.snd)) ?_ ?_ cs
  · exact ⟨fun _ => rfl, fun h => absurd rfl h⟩
  · intro cs c ih
    refine ⟨fun h => by simp at h, fun _ => ?_⟩
    rw [scan_snoc]
    by_cases hcs : cs = []
    · subst hcs
      refine ⟨c.1, ?_, ⟨⟨c, by simp, rfl⟩, fun d hd => .inl ?_⟩, ?_⟩
      · simp [scan, step1]
      · simp at hd
        rw [hd]
      · simp [scan, step1]
    · obtain ⟨m, h1, h2, h3⟩ := ih.2 hcs
      by_cases hlt : ltN c.1 m = true
      · have e1 : step1 (scan cs) c = (some c.1, [c.2]) := by
          unfold step1
          rw [h1]
          simp [hlt]
        rw [e1]
        have hless : ∀ d ∈ cs, ltN c.1 d.1 = true := fun d hd => by
          rcases h2.2 d hd with z | z
          · rw [z]
            exact hlt
          · exact ltN_trans hlt z
        refine ⟨c.1, rfl, ⟨⟨c, by simp, rfl⟩, fun d hd => ?_⟩, ?_⟩
        · rcases List.mem_append.mp hd with z | z
          · exact .inr (hless d z)
          · rw [List.mem_singleton.mp z]
            exact .inl rfl
        · have : (cs.filter fun d => decide (d.1 = c.1)) = [] := List.filter_eq_nil_iff.mpr fun d hd z => by
            have := hless d hd
            rw [of_decide_eq_true z, ltN_irr] at this
            cases this
          rw [List.filter_append, this]
          simp
      · have hlt' : ltN c.1 m = false := by simpa using hlt
        by_cases hem : c.1 = m
        · have e1 : step1 (scan cs) c = (some m, (scan cs).2 ++ [c.2]) := by
            unfold step1
            rw [h1]
            simp [hem, ltN_irr, h1]
          rw [e1, h3]
          refine ⟨m, rfl, ⟨⟨c, by simp, hem⟩, fun d hd => ?_⟩, ?_⟩
          · rcases List.mem_append.mp hd with z | z
            · exact h2.2 d z
            · rw [List.mem_singleton.mp z]
              exact .inl hem
          · rw [List.filter_append, List.map_append]
            simp [hem]
        · have e1 : step1 (scan cs) c = (some m, (scan cs).2) := by
            unfold step1
            rw [h1]
            simp only [hlt', h1, Bool.false_eq_true, if_false]
            rw [if_neg (fun z => hem (Option.some.inj z)), ← h1]
          rw [e1, h3]
          refine ⟨m, rfl, ⟨?_, fun d hd => ?_⟩, ?_⟩
          · obtain ⟨d, hd, hdm⟩ := h2.1
            exact ⟨d, List.mem_append_left _ hd, hdm⟩
          · rcases List.mem_append.mp hd with z | z
            · exact h2.2 d z
            · rw [List.mem_singleton.mp z]
              rcases ltN_tri hlt' with y | y
              · exact absurd y hem
              · exact .inr y
          · rw [List.filter_append, List.map_append]
            simp [hem]
theorem mem_rest {k p : Nat} {o : List Nat} : p ∈ rest k o ↔ p < k ∧ p ∉ o := by
  unfold rest
  rw [List.mem_filter, List.mem_range]
  simp
theorem mem_cand {k : Nat} {M : List (List Nat)} {os : List (List Nat)} {c : List Nat × List Nat} : c ∈ cand k M os ↔ ∃ o ∈ os, ∃ p, p < k ∧ p ∉ o ∧ c = (tells M o p, o ++ [p]) := by
  unfold cand cand1
  rw [List.mem_flatMap]
  constructor
  · rintro ⟨o, ho, h⟩
    obtain ⟨p, hp, rfl⟩ := List.mem_map.mp h
    obtain ⟨h1, h2⟩ := mem_rest.mp hp
    exact ⟨o, ho, p, h1, h2, rfl⟩
  · rintro ⟨o, ho, p, h1, h2, rfl⟩
    exact ⟨o, ho, List.mem_map.mpr ⟨p, mem_rest.mpr ⟨h1, h2⟩, rfl⟩⟩
/-- the marks of an order, told place by place -/
inductive Coded (M : List (List Nat)) : List Nat → List Nat → Prop
  | nil : Coded M [] []
  | snoc {o c : List Nat} (p : Nat) (h : Coded M o c) : Coded M (o ++ [p]) (c ++ tells M o p)
/-- an order of t places -/
structure Ord (k t : Nat) (o : List Nat) : Prop where
  len : o.length = t
  nd : o.Nodup
  lt : ∀ x ∈ o, x < k
theorem ord_more {k t : Nat} {o : List Nat} (h : Ord k t o) (ht : t < k) : ∃ p, p < k ∧ p ∉ o := by
  have h1 : ¬ (∀ p, p < k → p ∈ o) := fun hall => by
    have hs : (List.range k).length ≤ o.length := by
      have nd : (List.range k).Nodup := List.nodup_range
      have hp : (List.range k).Perm o := (List.perm_ext_iff_of_nodup nd h.nd).mpr fun x => ⟨fun hx => hall x (List.mem_range.mp hx), fun hx => List.mem_range.mpr (h.lt x hx)⟩
      rw [hp.length_eq]
      exact Nat.le_refl _
    rw [List.length_range, h.len] at hs
    omega
  exact Classical.byContradiction fun z => h1 fun p hp => Classical.byContradiction fun y => z ⟨p, hp, y⟩
theorem laps_ok (k : Nat) (M : List (List Nat)) : ∀ t, t ≤ k → (laps k M t).2 ≠ [] ∧ ∀ o ∈ (laps k M t).2, Ord k t o ∧ Coded M o (laps k M t).1
  | 0, _ => ⟨by simp [laps], fun o ho => by
    have : o = [] := by simpa [laps] using ho
    subst this
    exact ⟨⟨rfl, List.nodup_nil, fun x hx => by cases hx⟩, .nil⟩⟩
  | t + 1, ht => by
    obtain ⟨ih1, ih2⟩ := laps_ok k M t (by omega)
    have hne : cand k M (laps k M t).2 ≠ [] := fun z => by
      obtain ⟨o, ho⟩ := List.exists_mem_of_ne_nil _ ih1
      obtain ⟨p, hp, hpo⟩ := ord_more (ih2 o ho).1 (by omega)
      have : (tells M o p, o ++ [p]) ∈ cand k M (laps k M t).2 := mem_cand.mpr ⟨o, ho, p, hp, hpo, rfl⟩
      rw [z] at this
      cases this
    obtain ⟨m, h1, h2, h3⟩ := (scan_least (cand k M (laps k M t).2)).2 hne
    show (scan (cand k M (laps k M t).2)).2 ≠ [] ∧ ∀ o ∈ (scan (cand k M (laps k M t).2)).2, Ord k (t + 1) o ∧ Coded M o ((laps k M t).1 ++ (scan (cand k M (laps k M t).2)).1.getD [])
    rw [h1, h3]
    refine ⟨?_, fun o ho => ?_⟩
    · obtain ⟨c, hc, hcm⟩ := h2.1
      intro z
      have : c.2 ∈ ((cand k M (laps k M t).2).filter fun c => decide (c.1 = m)).map Prod.snd := List.mem_map.mpr ⟨c, List.mem_filter.mpr ⟨hc, by simpa using hcm⟩, rfl⟩
      rw [z] at this
      cases this
    · obtain ⟨c, hc, rfl⟩ := List.mem_map.mp ho
      obtain ⟨hc1, hc2⟩ := List.mem_filter.mp hc
      obtain ⟨o1, ho1, p, hp, hpo, rfl⟩ := mem_cand.mp hc1
      obtain ⟨O, C⟩ := ih2 o1 ho1
      refine ⟨⟨by simp [O.len], ?_, fun x hx => ?_⟩, ?_⟩
      · rw [List.nodup_append]
        exact ⟨O.nd, by simp, fun a ha b hb => by rw [List.mem_singleton.mp hb]; exact fun z => hpo (z ▸ ha)⟩
      · rcases List.mem_append.mp hx with z | z
        · exact O.lt x z
        · rw [List.mem_singleton.mp z]
          exact hp
      · have e : tells M o1 p = m := of_decide_eq_true hc2
        rw [Option.getD_some, ← e]
        exact .snoc p C
/-! ### what is moved has the same orders, moved -/
theorem tells_map {k : Nat} {M : List (List Nat)} {q : List Nat} (hq : q.Perm (List.range k)) {o : List Nat} {p : Nat} (ho : ∀ x ∈ o, x < k) (hp : p < k) : tells (movedN k M q) (o.map fun x => q.getD x 0) (q.getD p 0) = tells M o p := by
  have hl := perm_len hq
  have gd : ∀ x, x < k → q[x]? = some (q.getD x 0) := fun x hx => by
    rw [List.getD_eq_getElem?_getD, List.getElem?_eq_getElem (by omega)]
    rfl
  unfold tells
  rw [moved_at hq (gd p hp) (gd p hp), List.flatMap_map]
  congr 1
  rw [List.flatMap_def, List.flatMap_def]
  congr 1
  refine List.map_congr_left fun c hc => ?_
  rw [moved_at hq (gd p hp) (gd c (ho c hc)), moved_at hq (gd c (ho c hc)) (gd p hp)]
theorem laps_moved {k : Nat} {M : List (List Nat)} {q : List Nat} (hq : q.Perm (List.range k)) : ∀ t, t ≤ k → (laps k (movedN k M q) t).1 = (laps k M t).1 ∧ ∀ o, o ∈ (laps k (movedN k M q) t).2 ↔ ∃ o0 ∈ (laps k M t).2, o = o0.map fun x => q.getD x 0
  | 0, _ => ⟨rfl, fun o => by simp [laps]⟩
  | t + 1, ht => by
    obtain ⟨ih1, ih2⟩ := laps_moved hq t (by omega)
    obtain ⟨a1, a2⟩ := laps_ok k M t (by omega)
    obtain ⟨b1, b2⟩ := laps_ok k (movedN k M q) t (by omega)
    have hl := perm_len hq
    have gd : ∀ x, x < k → q[x]? = some (q.getD x 0) := fun x hx => by
      rw [List.getD_eq_getElem?_getD, List.getElem?_eq_getElem (by omega)]
      rfl
    have inj : ∀ x y, x < k → y < k → q.getD x 0 = q.getD y 0 → x = y := fun x y hx hy e => by
      have h1 := idx_of_get (perm_nd hq) (gd x hx)
      have h2 := idx_of_get (perm_nd hq) (gd y hy)
      rw [e] at h1
      omega
    -- the candidates go over
    have cc : ∀ c, c ∈ cand k (movedN k M q) (laps k (movedN k M q) t).2 ↔ ∃ c0 ∈ cand k M (laps k M t).2, c = (c0.1, c0.2.map fun x => q.getD x 0) := fun c => by
      rw [mem_cand]
      constructor
      · rintro ⟨o, ho, p, hp, hpo, rfl⟩
        obtain ⟨o0, ho0, rfl⟩ := (ih2 o).mp ho
        have hpm := get_idx (hq.mem_iff.mpr (List.mem_range.mpr hp))
        have hi : q.idxOf p < k := by
          have := (List.getElem?_eq_some_iff.mp hpm).1
          omega
        have ep : q.getD (q.idxOf p) 0 = p := by
          rw [List.getD_eq_getElem?_getD, hpm]
          rfl
        refine ⟨(tells M o0 (q.idxOf p), o0 ++ [q.idxOf p]), mem_cand.mpr ⟨o0, ho0, q.idxOf p, hi, fun z => hpo (List.mem_map.mpr ⟨_, z, ep⟩), rfl⟩, ?_⟩
        have := tells_map (M := M) hq (a2 o0 ho0).1.lt hi
        rw [ep] at this
        rw [this, List.map_append, List.map_cons, List.map_nil, ep]
      · rintro ⟨c0, hc0, rfl⟩
        obtain ⟨o0, ho0, p, hp, hpo, rfl⟩ := mem_cand.mp hc0
        refine ⟨o0.map fun x => q.getD x 0, (ih2 _).mpr ⟨o0, ho0, rfl⟩, q.getD p 0, perm_lt hq (gd p hp), fun z => ?_, ?_⟩
        · obtain ⟨x, hx, e⟩ := List.mem_map.mp z
          exact hpo (inj x p ((a2 o0 ho0).1.lt x hx) hp e ▸ hx)
        · rw [tells_map hq (a2 o0 ho0).1.lt hp, List.map_append, List.map_cons, List.map_nil]
    have ne : ∀ (N : List (List Nat)), (laps k N t).2 ≠ [] → (∀ o ∈ (laps k N t).2, Ord k t o ∧ Coded N o (laps k N t).1) → cand k N (laps k N t).2 ≠ [] := fun N h1 h2 z => by
      obtain ⟨o, ho⟩ := List.exists_mem_of_ne_nil _ h1
      obtain ⟨p, hp, hpo⟩ := ord_more (h2 o ho).1 (by omega)
      have : (tells N o p, o ++ [p]) ∈ cand k N (laps k N t).2 := mem_cand.mpr ⟨o, ho, p, hp, hpo, rfl⟩
      rw [z] at this
      cases this
    obtain ⟨m, m1, m2, m3⟩ := (scan_least _).2 (ne M a1 a2)
    obtain ⟨n, n1, n2, n3⟩ := (scan_least _).2 (ne _ b1 b2)
    have hmn : n = m := least_one n2 m2 fun t' => by
      constructor
      · rintro ⟨c, hc, rfl⟩
        obtain ⟨c0, hc0, rfl⟩ := (cc c).mp hc
        exact ⟨c0, hc0, rfl⟩
      · rintro ⟨c0, hc0, rfl⟩
        exact ⟨_, (cc _).mpr ⟨c0, hc0, rfl⟩, rfl⟩
    subst hmn
    show _ ++ (scan (cand k (movedN k M q) (laps k (movedN k M q) t).2)).1.getD [] = _ ++ (scan (cand k M (laps k M t).2)).1.getD [] ∧ ∀ o, o ∈ (scan (cand k (movedN k M q) (laps k (movedN k M q) t).2)).2 ↔ ∃ o0 ∈ (scan (cand k M (laps k M t).2)).2, o = o0.map fun x => q.getD x 0
    rw [m1, n1, m3, n3, ih1]
    refine ⟨rfl, fun o => ?_⟩
    simp only [List.mem_map, List.mem_filter, decide_eq_true_eq]
    constructor
    · rintro ⟨c, ⟨hc, hcn⟩, rfl⟩
      obtain ⟨c0, hc0, rfl⟩ := (cc c).mp hc
      exact ⟨c0.2, ⟨c0, ⟨hc0, hcn⟩, rfl⟩, rfl⟩
    · rintro ⟨o0, ⟨c0, ⟨hc0, hcn⟩, rfl⟩, rfl⟩
      exact ⟨_, ⟨(cc _).mpr ⟨c0, hc0, rfl⟩, hcn⟩, rfl⟩
/-! ### one code, one picture -/
theorem tells_len (M : List (List Nat)) (o : List Nat) (p : Nat) : (tells M o p).length = 2 * o.length + 1 := by
  unfold tells
  rw [List.length_append]
  congr 1
  induction o with
  | nil => rfl
  | cons a o ih =>
    rw [List.flatMap_cons, List.length_append, ih]
    simp
    omega
theorem tells_eq {M N : List (List Nat)} : ∀ {o o' : List Nat} {p p' : Nat}, o.length = o'.length → tells M o p = tells N o' p' → at2 M p p = at2 N p' p' ∧ ∀ i a a' : Nat, o[i]? = some a → o'[i]? = some a' → at2 M p a = at2 N p' a' ∧ at2 M a p = at2 N a' p'
  | [], [], p, p', _, h => ⟨by simpa [tells] using h, fun i a a' h => by simp at h⟩
  | [], _ :: _, _, _, h, _ => by simp at h
  | _ :: _, [], _, _, h, _ => by simp at h
  | c :: o, c' :: o', p, p', hl, h => by
    have h' : at2 M p c :: at2 M c p :: tells M o p = at2 N p' c' :: at2 N c' p' :: tells N o' p' := by simpa [tells] using h
    injection h' with e1 h'
    injection h' with e2 h'
    obtain ⟨i1, i2⟩ := tells_eq (o := o) (o' := o') (by simpa using hl) h'
    refine ⟨i1, fun i a a' ha ha' => ?_⟩
    cases i with
    | zero =>
      cases (Option.some.inj ha)
      cases (Option.some.inj ha')
      exact ⟨e1, e2⟩
    | succ i => exact i2 i a a' (by simpa using ha) (by simpa using ha')
theorem coded_eq {M N : List (List Nat)} {o c : List Nat} (h : Coded M o c) : ∀ {o' : List Nat}, Coded N o' c → o.length = o'.length → ∀ i j a b a' b' : Nat, o[i]? = some a → o[j]? = some b → o'[i]? = some a' → o'[j]? = some b' → at2 M a b = at2 N a' b' := by
  induction h with
  | nil =>
    intro o' h' hl i j a b a' b' ha
    simp at ha
  | snoc p h ih =>
    rename_i o c
    intro o' h' hl
    generalize hc : c ++ tells M o p = d at h'
    cases h' with
    | nil => simp at hl
    | snoc p' h' =>
      rename_i o1 c1
      have hol : o.length = o1.length := by simpa using hl
      have ht : (tells M o p).length = (tells N o1 p').length := by rw [tells_len, tells_len, hol]
      obtain ⟨e1, e2⟩ := List.append_inj' hc ht
      subst e1
      obtain ⟨t1, t2⟩ := tells_eq hol e2
      have ihh := ih h' hol
      intro i j a b a' b' ha hb ha' hb'
      have sp : ∀ {l : List Nat} {z x : Nat} {n : Nat}, (l ++ [z])[n]? = some x → (n < l.length ∧ l[n]? = some x) ∨ (n = l.length ∧ x = z) := fun {l z x n} h => by
        rcases Nat.lt_or_ge n l.length with q | q
        · rw [List.getElem?_append_left q] at h
          exact .inl ⟨q, h⟩
        · rw [List.getElem?_append_right q] at h
          have hn := (List.getElem?_eq_some_iff.mp h).1
          simp at hn
          have : n = l.length := by omega
          subst this
          simp at h
          exact .inr ⟨rfl, h.symm⟩
      rcases sp ha with ⟨qa, ga⟩ | ⟨qa, rfl⟩
      · rcases sp ha' with ⟨qa', ga'⟩ | ⟨qa', rfl⟩
        · rcases sp hb with ⟨qb, gb⟩ | ⟨qb, rfl⟩
          · rcases sp hb' with ⟨qb', gb'⟩ | ⟨qb', rfl⟩
            · exact ihh i j a b a' b' ga gb ga' gb'
            · omega
          · rcases sp hb' with ⟨qb', gb'⟩ | ⟨qb', rfl⟩
            · omega
            · exact (t2 i a a' ga ga').2
        · omega
      · rcases sp ha' with ⟨qa', ga'⟩ | ⟨qa', rfl⟩
        · omega
        · rcases sp hb with ⟨qb, gb⟩ | ⟨qb, rfl⟩
          · rcases sp hb' with ⟨qb', gb'⟩ | ⟨qb', rfl⟩
            · exact (t2 j b b' gb gb').1
            · omega
          · rcases sp hb' with ⟨qb', gb'⟩ | ⟨qb', rfl⟩
            · omega
            · exact t1
/-! ### sizes, and the scan in two parts -/
def pre1 (s : Option (List Nat) × List (List Nat)) (c : List Nat × List Nat) : Option (List Nat) × List (List Nat) := if (match s.1 with | none => true | some b => ltN c.1 b) = true then (some c.1, []) else s
theorem step1_pre (s : Option (List Nat) × List (List Nat)) (c : List Nat × List Nat) : step1 s c = if some c.1 = (pre1 s c).1 then ((pre1 s c).1, (pre1 s c).2 ++ [c.2]) else pre1 s c := rfl
theorem pre1_len (s : Option (List Nat) × List (List Nat)) (c : List Nat × List Nat) : (pre1 s c).2.length ≤ s.2.length := by
  unfold pre1
  split
  · split
    · exact Nat.zero_le _
    · exact Nat.le_refl _
  · split
    · exact Nat.zero_le _
    · exact Nat.le_refl _
theorem step1_len (s : Option (List Nat) × List (List Nat)) (c : List Nat × List Nat) : (step1 s c).2.length ≤ s.2.length + 1 := by
  have h := pre1_len s c
  rw [step1_pre]
  split
  · rw [List.length_append]
    exact Nat.add_le_add_right h 1
  · omega
theorem scan_len (cs : List (List Nat × List Nat)) : (scan cs).2.length ≤ cs.length := by
  refine snoc_ind (P := fun cs => (scan cs).2.length ≤ cs.length) (Nat.le_refl _) (fun cs c ih => ?_) cs
  rw [scan_snoc, List.length_append]
  have := step1_len (scan cs) c
  simp
  omega
theorem rest_len (k : Nat) (o : List Nat) : (rest k o).length ≤ k := by
  unfold rest
  refine Nat.le_trans (List.length_filter_le _ _) ?_
  rw [List.length_range]
  exact Nat.le_refl _
theorem cand_snoc {k : Nat} {M : List (List Nat)} {os : List (List Nat)} {o : List Nat} : cand k M (os ++ [o]) = cand k M os ++ cand1 k M o := by
  unfold cand
  rw [List.flatMap_append]
  simp
theorem cand_len {k : Nat} (hk : k ≤ 5) (M : List (List Nat)) (os : List (List Nat)) : (cand k M os).length ≤ os.length * 5 := by
  refine snoc_ind (P := fun os => (cand k M os).length ≤ os.length * 5) (Nat.le_refl _) (fun os o ih => ?_) os
  rw [cand_snoc, List.length_append, List.length_append]
  have h1 : (cand1 k M o).length ≤ k := by
    unfold cand1
    rw [List.length_map]
    exact rest_len k o
  simp
  omega
theorem laps_len {k : Nat} (hk : k ≤ 5) (M : List (List Nat)) : ∀ t, (laps k M t).2.length ≤ 5 ^ t
  | 0 => Nat.le_refl _
  | t + 1 => by
    have h1 := laps_len hk M t
    have h2 : (laps k M (t + 1)).2.length ≤ _ := scan_len (cand k M (laps k M t).2)
    have h3 := cand_len hk M (laps k M t).2
    rw [Nat.pow_succ]
    omega
theorem pow5 : ∀ {t : Nat}, t ≤ 5 → 5 ^ t ≤ 3125
  | 0, _ => by decide
  | 1, _ => by decide
  | 2, _ => by decide
  | 3, _ => by decide
  | 4, _ => by decide
  | 5, _ => by decide
  | t + 6, h => by omega
theorem coded_len {M : List (List Nat)} {o c : List Nat} (h : Coded M o c) : o.length ≤ 6 → c.length ≤ 13 * o.length := by
  induction h with
  | nil => intro _; exact Nat.zero_le _
  | snoc p h ih =>
    intro hl
    rw [List.length_append] at hl
    rw [List.length_append, List.length_append, tells_len]
    have := ih (by omega)
    simp at hl ⊢
    omega
theorem cand_ne {k t : Nat} {M : List (List Nat)} (ht : t < k) : cand k M (laps k M t).2 ≠ [] := fun z => by
  obtain ⟨h1, h2⟩ := laps_ok k M t (by omega)
  obtain ⟨o, ho⟩ := List.exists_mem_of_ne_nil _ h1
  obtain ⟨p, hp, hpo⟩ := ord_more (h2 o ho).1 ht
  have : (tells M o p, o ++ [p]) ∈ cand k M (laps k M t).2 := mem_cand.mpr ⟨o, ho, p, hp, hpo, rfl⟩
  rw [z] at this
  cases this
end WT
/-! The program's least orders, read. -/
namespace WT
open PySem PySem.Spec PyProof.Rows L2 Evl
abbrev s_marks_with : Stmt := top 15
abbrev N_marks_with : List Str := ["picture", "chosen", "place", "found", "other"]
theorem sc_marks_with : FnScope N_marks_with ["picture", "chosen", "place"] (defScope s_marks_with) := ⟨rfl, rfl, rfl, by decide +kernel, rfl, by decide +kernel, by decide +kernel⟩
abbrev s_least_orders : Stmt := top 16
abbrev N_least_orders : List Str := ["picture", "code", "orders", "lap", "best", "later", "chosen", "place", "told"]
theorem sc_least_orders : FnScope N_least_orders ["picture"] (defScope s_least_orders) := ⟨rfl, rfl, rfl, by decide +kernel, rfl, by decide +kernel, by decide +kernel⟩
abbrev s_position_by : Stmt := top 17
abbrev N_position_by : List Str := ["order", "found", "at", "place"]
theorem sc_position_by : FnScope N_position_by ["order"] (defScope s_position_by) := ⟨rfl, rfl, rfl, by decide +kernel, rfl, by decide +kernel, by decide +kernel⟩
abbrev s_least_picture : Stmt := top 18
abbrev N_least_picture : List Str := ["picture", "code", "orders", "position", "order"]
theorem sc_least_picture : FnScope N_least_picture ["picture"] (defScope s_least_picture) := ⟨rfl, rfl, rfl, by decide +kernel, rfl, by decide +kernel, by decide +kernel⟩
abbrev s_same_picture : Stmt := top 20
abbrev N_same_picture : List Str := ["one", "other", "code", "orders", "its", "others", "position", "place", "to"]
theorem sc_same_picture : FnScope N_same_picture ["one", "other"] (defScope s_same_picture) := ⟨rfl, rfl, rfl, by decide +kernel, rfl, by decide +kernel, by decide +kernel⟩
abbrev s_shows_same_picture : Stmt := top 21
abbrev N_shows_same_picture : List Str := ["one", "other", "value"]
theorem sc_shows_same_picture : FnScope N_shows_same_picture ["one", "other", "value"] (defScope s_shows_same_picture) := ⟨rfl, rfl, rfl, by decide +kernel, rfl, by decide +kernel, by decide +kernel⟩
section
variable {K : PySem.W.Frag} {σ : L2.St} {H : Hp} {ta tb tc te : TE}
theorem rNs_get {r : List Nat} {j x : Nat} (h : r[j]? = some x) : (rNs r)[j]? = some (.int (x : Int)) := by
  unfold rNs
  rw [List.getElem?_map, h]
  rfl
theorem ed_at2 {k i j : Nat} {M : List (List Nat)} (hM : Sq k M) (h : Ed K ta σ H (tNN M)) (hi : Ev tb σ H (.int (i : Int))) (hj : Ev tc σ H (.int (j : Int))) (hik : i < k) (hjk : j < k) : Ed K (tOp (rIxT K) (tOp (rIxT K) ta tb) tc) σ H (.int ((at2 M i j : Nat) : Int)) := by
  obtain ⟨r, hr, hrl, _⟩ := hM.get hik
  exact ed_ixT (ed_ixT h hi (show (M.map tN)[i]? = some (tN r) by rw [List.getElem?_map, hr]; rfl)) hj (rNs_get (hM.at hr hjk))
theorem ev_ltN {a b : List Nat} (h : Ed K ta σ H (tN a)) (k : Ed K tb σ H (tN b)) : Ev (tOp (rLtT K) ta tb) σ H (.bl (ltN a b)) := by
  have e : ∀ c : List Nat, tN c = .tuple ((c.map fun n : Nat => (n : Int)).map PyData.int) := fun c => by
    unfold tN
    rw [List.map_map]
    rfl
  rw [e] at h k
  exact ev_ltT h k
end
def rMarks (as : List Ag) (d : PyData) : Prop := ∃ (k p : Nat) (M : List (List Nat)) (o : List Nat), as = [.d (tNN M), .d (tN o), .v (.int (p : Int))] ∧ Sq k M ∧ k ≤ 5 ∧ (∀ x ∈ o, x < k) ∧ p < k ∧ o.length ≤ 5 ∧ d = tN (tells M o p)
/-- (code, orders) -/
def spOrders (K : PySem.W.Frag) : Sp := fun vs H Q _ => ∃ (k : Nat) (M : List (List Nat)) (y : V), vs = [y] ∧ Sq k M ∧ k ≤ 5 ∧ Fz K H (tNN M) y ∧
  ∀ t vc po xs H', Ex H H' → H' t = some (.tup [vc, .ref po]) → Fz K H' (tN (laps k M k).1) vc → H' po = some (.lst xs) → FzL K H' ((laps k M k).2.map tN) xs → Q (.ref t) H'
section
variable {P : Program} {w : World} {K : PySem.W.Frag} {mg : Str → Option Value} {base : Heap}
theorem ok_marks (B : Bt mg) (d : DefIn K mg "marks_with" ["picture", "chosen", "place"] s_marks_with) : Okd P w K mg base "marks_with" ["picture", "chosen", "place"] s_marks_with 1 (spD K 3 rMarks) := by
  refine Okd.mk d sc_marks_with (fun vs H Q E h => spD_len h) (fun f cdv A outer s H vs Q E hr h => ?_)
  obtain ⟨as, d, _, hv, ⟨m, p, M, o, rfl, hM, hm, ho, hp, hol, rfl⟩, k⟩ := h
  obtain ⟨y, z, _, rfl, hy, hz, rfl⟩ := agl3 hv
  replace hy := agd hy
  replace hz := agd hz
  refine ⟨_, (pss_cons (ps_set (i := 3) sc_marks_with.nd rfl (Or.inl rfl) (pe_lst pa_nil))
      (pss_cons (ps_for PassesOwn.never rfl (pi_tup (pv 1)) (pg_name (i := 4) sc_marks_with.nd rfl (Or.inl rfl)) (pss_one (ps_expr (pe_bm PySem.F.plainAttrs_list PySem.F.slot_list_extend PySem.F.type_list_extend mt_extend (pv 3) (pa_cons (pe_lst (pa_cons (pe_ix ix_tup (pe_ix ix_tup (pv 0) (pv 2) (fun _ _ => rfl)) (pv 4) (fun _ _ => rfl)) (pa_cons (pe_ix ix_tup (pe_ix ix_tup (pv 0) (pv 4) (fun _ _ => rfl)) (pv 2) (fun _ _ => rfl)) pa_nil))) pa_nil)))))
      (pss_one (ps_ret (pe_tup (StX.pa_star (pv 3) (pa_cons (pe_ix ix_tup (pe_ix ix_tup (pv 0) (pv 2) (fun _ _ => rfl)) (pv 2) (fun _ _ => rfl)) pa_nil))))))), ?_⟩
  refine q_asgL (Evl.el_lst Evl.ea_nil (by decide)) fun l H1 hl e1 h1 => ?_
  refine q_forTd (ed_var rfl (fz_ex e1 hz)) fun H2 e2 => ⟨fun i σ' H' => (∃ z4, σ' = [some y, some z, some (.int (p : Int)), some (.ref l), z4]) ∧ TEx H2 H' ∧ Ex H H' ∧ H' l = some (.lst (vN ((o.take i).flatMap fun c => [at2 M p c, at2 M c p]))), ⟨⟨none, rfl⟩, TEx.refl _, e1.trans e2, e2 _ _ h1⟩, fun i σ' H' h => h.2.1, ?_, ?_⟩
  · rintro i x d σ' H' hd hx ⟨⟨z4, rfl⟩, tx, eX, hl'⟩
    obtain ⟨c, hc, rfl⟩ := tN_get hd
    have hxx := fz_intI hx
    subst hxx
    have hck := ho c (List.mem_of_getElem? hc)
    show tDrop _ _ [some y, some z, some (.int (p : Int)), some (.ref l), some (.int (c : Int))] H'
    have hy' := fz_ex eX hy
    have hil := (List.getElem?_eq_some_iff.mp hc).1
    have hsz : ((o.take i).flatMap fun c => [at2 M p c, at2 M c p]).length ≤ 2 * i := by
      rw [List.length_flatMap]
      have : ((o.take i).map fun c => ([at2 M p c, at2 M c p] : List Nat).length) = List.replicate (o.take i).length 2 := by
        rw [List.eq_replicate_iff]
        exact ⟨by rw [List.length_map], fun b hb => by obtain ⟨a, _, rfl⟩ := List.mem_map.mp hb; rfl⟩
      rw [this, List.sum_replicate_nat, List.length_take]
      have : min i o.length ≤ i := Nat.min_le_left _ _
      omega
    refine s_extE (ds := [.int ((at2 M p c : Nat) : Int), .int ((at2 M c p : Nat) : Int)]) hl' (ev_var rfl) (WT.el_lst (ea_d (ed_at2 hM (ed_var rfl hy') (ev_var rfl) (ev_var rfl) hp hck) (ea_d (ed_at2 hM (ed_var rfl hy') (ev_var rfl) (ev_var rfl) hck hp) ea_nil)) (show 2 ≤ 100000 by decide)) (by rw [vN_len]; show _ + 2 ≤ _; omega) fun zs H3 e3 f => ?_
    have hzs : zs = vN [at2 M p c, at2 M c p] := fzl_nats.mp f
    subst hzs
    refine ⟨⟨_, rfl⟩, (tx.trans (tex_of e3)).trans (tex_lst (e3 _ _ hl')), (eX.trans e3).mut hl, ?_⟩
    rw [take_get hc, List.flatMap_append]
    unfold vN
    rw [List.map_append]
    exact upd_same
  · rintro σ' H' ⟨⟨z4, rfl⟩, tx, eX, hl'⟩
    rw [List.length_map, List.take_of_length_le (Nat.le_refl _)] at hl'
    have hlen := tells_len M o p
    refine s_retD (ed_tup (ds := (tells M o p).map fun n : Nat => PyData.int (n : Int)) (ea_is (ea_starL (ev_var rfl) (sq_of hl') (fzl_nats.mpr rfl) (ea_d (ed_at2 hM (ed_var rfl (fz_ex eX hy)) (ev_var rfl) (ev_var rfl) hp hp) ea_nil)) ?_) (by rw [List.length_map]; omega)) fun v H3 e3 f => k v H3 (eX.trans e3) f
    unfold tells
    rw [List.map_append, List.map_append]
    rfl
def bD : Option (List Nat) → PyData
  | none => .none
  | some b => tN b
theorem bD_plain (o : Option (List Nat)) : Plain (bD o) := by
  cases o with
  | none => exact ⟨rfl, by simp only [bD, PyData.depth]; omega⟩
  | some b => exact Plain.of (tN_plain b)
theorem eqv_bD (t : List Nat) (o : Option (List Nat)) : PyData.eqv (tN t) (bD o) = decide (some t = o) := by
  have h := eqv_iff (tN t) (bD o) (tN_plain t).1 (bD_plain o).1
  rw [Bool.eq_iff_iff, h, decide_eq_true_eq]
  cases o with
  | none => exact ⟨fun z => by simp [tN, bD] at z, fun z => nomatch z⟩
  | some b => exact ⟨fun z => by rw [tN_inj z], fun z => by rw [Option.some.inj z]; rfl⟩
theorem fz_bD {K : PySem.W.Frag} {H : Hp} {o : Option (List Nat)} {v : V} (h : Fz K H (bD o) v) : decide (v = .non) = o.isNone := by
  cases o with
  | none => exact decide_eq_true (fz_nonI h)
  | some b =>
    obtain ⟨a, e, _⟩ := fz_tN.mp h
    exact decide_eq_false fun z => by rw [z] at e; cases e
theorem ok_orders (B : Bt mg) (o_marks_with : Okd P w K mg base "marks_with" ["picture", "chosen", "place"] s_marks_with 1 (spD K 3 rMarks)) (d : DefIn K mg "least_orders" ["picture"] s_least_orders) : Okd P w K mg base "least_orders" ["picture"] s_least_orders 2 (spOrders K) := by
  refine Okd.mk d sc_least_orders (fun vs H Q E h => ?_) (fun f cdv A outer s H vs Q E hr h => ?_)
  · obtain ⟨k, M, y, rfl, _⟩ := h
    rfl
  · obtain ⟨m, M, y, rfl, hM, hm, hy, k⟩ := h
    refine ⟨_, (pss_cons (ps_par (i := 1) (j := 2) (by rfl) sc_least_orders.nd rfl rfl (by decide) rfl rfl (pa_cons (pe_tup pa_nil) (pa_cons (pe_lst (pa_cons (pe_tup pa_nil) pa_nil)) pa_nil)) (by rfl))
      (pss_cons (ps_for PassesOwn.never rfl (pi_range1 (by rfl) B.range (pa_cons (pe_callB call_len_seq (by rfl) B.len boot_len (pa_cons (pv 0) pa_nil)) pa_nil)) (pg_name (i := 3) sc_least_orders.nd rfl (Or.inl rfl)) (pss_cons (ps_par (i := 4) (j := 5) (by rfl) sc_least_orders.nd rfl rfl (by decide) rfl rfl (pa_cons pe_non (pa_cons (pe_lst pa_nil) pa_nil)) (by rfl))
        (pss_cons (ps_for PassesOwn.never rfl (pi_list (pv 2)) (pg_name (i := 6) sc_least_orders.nd rfl (Or.inr rfl)) (pss_one (ps_for PassesOwn.never rfl (pi_list (pe_lc (own := [("place", 7)]) rfl sc_least_orders.nd (pi_range1 (by rfl) B.range (pa_cons (pe_callB call_len_seq (by rfl) B.len boot_len (pa_cons (pv 0) pa_nil)) pa_nil)) (blkOk_by (own := [("place", 7)]) (N := N_least_orders) (sc := defScope s_least_orders) (by decide +kernel)) (fun _ _ _ _ _ => pg_name (i := 7) sc_least_orders.nd rfl (Or.inl rfl)) (fun _ _ _ _ _ => (pts_one (pt_cmpR (oK (K := K) (r := (fun K => rIn K true)) op_notIn_seq rfl) (pv 7) (pv 6) (by rfl)))) (fun _ _ _ _ _ => (pv 7)))) (pg_name (i := 7) sc_least_orders.nd rfl (Or.inl rfl)) (pss_cons (ps_set (i := 8) sc_least_orders.nd rfl (Or.inl rfl) (pe_fn o_marks_with (hr.mono (by decide)) (pa_cons (pv 0) (pa_cons (pv 6) (pa_cons (pv 7) pa_nil)))))
            (pss_cons (ps_if (PW.pt (pw_or (pt_cmpR op_isN (pv 4) pe_non (nomark _)) (pw_or1 (pt_cmpR (op_ltT (room0 hr)) (pv 8) (pv 4) (nomark _))))) (pss_one (ps_par (i := 4) (j := 5) (by rfl) sc_least_orders.nd rfl rfl (by decide) rfl rfl (pa_cons (pv 8) (pa_cons (pe_lst pa_nil) pa_nil)) (by rfl))) pss_nil)
            (pss_one (ps_if (pt_cmpR (op_eqD (room64 hr)) (pv 8) (pv 4) (nomark _)) (pss_one (ps_expr (pe_bm PySem.F.plainAttrs_list PySem.F.slot_list_append PySem.F.type_list_append mt_append (pv 5) (pa_cons (pe_tup (StX.pa_star (pv 6) (pa_cons (pv 7) pa_nil))) pa_nil)))) pss_nil)))))))
        (pss_one (ps_par (i := 1) (j := 2) (by rfl) sc_least_orders.nd rfl rfl (by decide) rfl rfl (pa_cons (pe_tup (StX.pa_star (pv 1) (StX.pa_star (pv 4) pa_nil))) (pa_cons (pv 5) pa_nil)) (by rfl))))))
      (pss_one (ps_ret (pe_tup (pa_cons (pv 1) (pa_cons (pv 2) pa_nil))))))), ?_⟩
    have hl := hM.len
    have hlen : ∀ {σ : L2.St} {H1 : Hp}, Ex H H1 → σ[0]? = some (some y) → Ev (tCB (rLenS K) (tCons (tVar 0) tNil)) σ H1 (.int (m : Int)) := fun e h0 => ev_is (ev_lenT (ed_var h0 (fz_ex e hy))) (by rw [List.length_map, hl])
    refine q_parM (c_cons (ed_tup (K := K) (ds := []) ea_nil (by decide) H (Ex.refl _) _ fun v0 H1 e1 f1 => c_cons (WT.el_lst (K := K) (ds := [tN []]) (ea_d (ed_tup (ds := []) ea_nil (by decide)) ea_nil) (by decide) H1 (Ex.refl _) _ fun p0 xs0 H2 hp0 e2 h2 f2 => c_nil ⟨_, _, rfl, ?_⟩)))
    refine q_forR1 (n := (m : Int)) (Evl.ea_cons (hlen (e1.trans e2) rfl) Evl.ea_nil) ⟨by omega, by omega⟩ (fun t σ' H' => (∃ vc po xs z3 z4 z5 z6 z7 z8, σ' = [some y, some vc, some (.ref po), z3, z4, z5, z6, z7, z8] ∧ Fz K H' (tN (laps m M t).1) vc ∧ H' po = some (.lst xs) ∧ FzL K H' ((laps m M t).2.map tN) xs) ∧ Ex H H') (fun H3 e3 => ?_) (fun t σ' H' ht h => ?_) (fun σ' H' h => ?_)
    · exact ⟨⟨v0, p0, xs0, none, none, none, none, none, none, rfl, fz_ex (e2.trans e3) f1, e3 _ _ h2, fzl_ex e3 f2⟩, (e1.trans e2).trans e3⟩
    · obtain ⟨⟨vc, po, xs, z3, z4, z5, z6, z7, z8, rfl, fc, hpo, fx⟩, eX⟩ := h
      have htm : t < m := by omega
      obtain ⟨lok1, lok2⟩ := laps_ok m M t (by omega)
      have lsz := laps_len hm M t
      have psz := pow5 (t := t) (by omega)
      have osz := cand_len hm M (laps m M t).2
      generalize hos : (laps m M t).2 = os at lok1 lok2 lsz fx osz
      refine q_parM (c_cons (ev_c H' (Ex.refl _) _ fun G1 g1 => c_cons (Evl.el_lst Evl.ea_nil (by decide) G1 (Ex.refl _) _ fun la0 G2 hla0 g2 hG2 => c_nil ⟨_, _, rfl, ?_⟩)))
      let St : (Option V → Option V → Option V → Addr → Prop) → Option (List Nat) × List (List Nat) → L2.St → Hp → Prop := fun C s σ2 H2 =>
        (∃ vb la ls z6 z7 z8, C z6 z7 z8 la ∧ σ2 = [some y, some vc, some (.ref po), some (.int (t : Int)), some vb, some (.ref la), z6, z7, z8] ∧ Fz K H2 (bD s.1) vb ∧ H' la = none ∧ H2 la = some (.lst ls) ∧ FzL K H2 (s.2.map tN) ls) ∧ Ex H' H2
      have hxl := fzl_len fx
      rw [List.length_map] at hxl
      refine q_forL (ev_var rfl) (sq_of (g2 _ _ (g1 _ _ hpo))) (fun i => St (fun _ _ _ _ => True) (scan (cand m M (os.take i)))) (fun G3 g3 => ?_) (fun i σ2 H2 _ h => sq_of (h.2 _ _ hpo)) (fun i x σ2 H2 hx h => ?_) (fun σ2 H2 h => ?_)
      · exact ⟨⟨.non, la0, [], z6, z7, z8, trivial, rfl, fz_non, fresh_back g1 hla0, g3 _ _ hG2, fzl_nil⟩, (g1.trans g2).trans g3⟩
      · obtain ⟨⟨vb, la, ls, z6, z7, z8, _, rfl, fb, hla, hls, fl⟩, eX2⟩ := h
        obtain ⟨d, hd, fo⟩ := fzl_getV fx hx
        obtain ⟨o, ho, rfl⟩ := map_get hd
        obtain ⟨O, _⟩ := lok2 o (List.mem_of_getElem? ho)
        have hil := (List.getElem?_eq_some_iff.mp ho).1
        have hcsz := cand_len hm M (os.take i)
        have htk : (os.take i).length ≤ i := by
          rw [List.length_take]
          exact Nat.min_le_left _ _
        have tol : ∀ (n : Nat), decide ((n : Int) ∈ o.map fun n : Nat => (n : Int)) = decide (n ∈ o) := fun n => by
          rw [decide_eq_decide, List.mem_map]
          constructor
          · rintro ⟨a, ha, e⟩
            have : a = n := by omega
            exact this ▸ ha
          · exact fun h => ⟨n, h, rfl⟩
        have eo : tN o = .tuple ((o.map fun n : Nat => (n : Int)).map PyData.int) := by
          unfold tN
          rw [List.map_map]
          rfl
        have eHX : Ex H H2 := eX.trans eX2
        refine s_forNL (xs := vN (rest m o)) (evl_el (K := K) (el_filtR (fun p => !decide (p ∈ o)) (fun p => .int (p : Int)) (Evl.ea_cons (hlen eHX rfl) Evl.ea_nil) (by omega) (fun _ => rfl) fun i H5 e5 hi => ⟨et_is (et_test (ev_inT (neg := true) (ev_var rfl) (eo ▸ ed_var rfl (fz_ex (eX2.trans e5) fo)))) (by rw [if_pos rfl, tol]), fun _ => ed_ev (ev_var rfl) fz_int⟩) fun H5 xs f => fzl_nats.mp f)
          (fun p j σ3 H3 => St (fun z6 _ _ la => z6 = some x ∧ p ≠ la) (scan (cand m M (os.take i) ++ (cand1 m M o).take j)) σ3 H3 ∧ H3 p = some (.lst (vN (rest m o)))) (fun p H3 hp e3 h3 => ?_) (fun p j σ3 H3 _ h => sq_of h.2) (fun p j x2 σ3 H3 hx2 h => ?_) (fun p σ3 H3 h => ?_)
        · refine ⟨⟨⟨vb, la, ls, some x, z7, z8, ⟨rfl, fun z => ?_⟩, rfl, ?_, hla, e3 _ _ hls, ?_⟩, eX2.trans e3⟩, h3⟩
          · rw [z, hls] at hp
            cases hp
          · rw [List.take_zero, List.append_nil]
            exact fz_ex e3 fb
          · rw [List.take_zero, List.append_nil]
            exact fzl_ex e3 fl
        · obtain ⟨⟨⟨vb, la, ls, _, z7, z8, ⟨rfl, hpla⟩, rfl, fb, hla, hls, fl⟩, eX3⟩, hp3⟩ := h
          rw [vN_get] at hx2
          obtain ⟨pl, hpl, rfl⟩ : ∃ pl, (rest m o)[j]? = some pl ∧ x2 = .int (pl : Int) := by
            cases z : (rest m o)[j]? with
            | none => rw [z] at hx2; cases hx2
            | some a => rw [z] at hx2; exact ⟨a, rfl, (Option.some.inj hx2).symm⟩
          obtain ⟨hplm, hplo⟩ := mem_rest.mp (List.mem_of_getElem? hpl)
          have hc : (cand1 m M o)[j]? = some (tells M o pl, o ++ [pl]) := by
            unfold cand1
            rw [List.getElem?_map, hpl]
            rfl
          have hjl := (List.getElem?_eq_some_iff.mp hc).1
          have hrl : (cand1 m M o).length ≤ m := by
            unfold cand1
            rw [List.length_map]
            exact rest_len m o
          have hseen : (cand m M (os.take i) ++ (cand1 m M o).take j).length ≤ 20000 := by
            rw [List.length_append, List.length_take]
            omega
          have hsc := scan_len (cand m M (os.take i) ++ (cand1 m M o).take j)
          rw [take_get hc, ← List.append_assoc, scan_snoc]
          generalize scan (cand m M (os.take i) ++ (cand1 m M o).take j) = s at fb fl hsc
          refine q_asgD (ed_call (ea_d (ed_var rfl (fz_ex (eX.trans eX3) hy)) (ea_d (ed_var rfl (fz_ex eX3 fo)) (ea_v (ev_var rfl) ea_nil))) (pr_D ⟨m, pl, M, o, rfl, hM, hm, O.lt, hplm, by rw [O.len]; omega, rfl⟩)) fun vt H4 e4 ft => ?_
          refine q_whenX (b := match s.1 with | none => true | some b => ltN (tells M o pl) b) (fun σ2 H2 => St (fun z6 z7 z8 la => z6 = some x ∧ z7 = some (.int (pl : Int)) ∧ z8 = some vt ∧ p ≠ la) (pre1 s (tells M o pl, o ++ [pl])) σ2 H2 ∧ H2 p = some (.lst (vN (rest m o))) ∧ Fz K H2 (tN (tells M o pl)) vt) ?_ (fun hb H5 e5 Nx hNx => ?_) (fun hb H5 e5 => ?_) ?_
          · have hn := fz_bD (fz_ex e4 fb)
            cases hs1 : s.1 with
            | none =>
              rw [hs1] at hn
              exact et_is (et_or (a := true) (b := true) (et_is (et_test (ev_isN (ev_var rfl))) hn) (fun z => nomatch z)) rfl
            | some b =>
              rw [hs1] at hn fb
              exact et_is (et_or (a := false) (et_is (et_test (ev_isN (ev_var rfl))) hn) (fun _ => et_test (ev_ltN (ed_var rfl ft) (ed_var rfl (fz_ex e4 fb))))) rfl
          · refine s_parM (c_cons (ev_var rfl H5 (Ex.refl _) _ fun H6 e6 => c_cons (Evl.el_lst Evl.ea_nil (by decide) H6 (Ex.refl _) _ fun la2 H7 hla2 e7 h7 => c_nil ⟨_, _, rfl, hNx _ _ ?_⟩)))
            have e47 : Ex H4 H7 := (e5.trans e6).trans e7
            have hpre : pre1 s (tells M o pl, o ++ [pl]) = (some (tells M o pl), []) := if_pos hb
            rw [hpre]
            refine ⟨⟨⟨vt, la2, [], _, _, _, ⟨rfl, rfl, rfl, fun z => ?_⟩, rfl, fz_ex e47 ft, fresh_back (((eX3.trans e4).trans e5).trans e6) hla2, h7, fzl_nil⟩, (eX3.trans e4).trans e47⟩, e47 _ _ (e4 _ _ hp3), fz_ex e47 ft⟩
            rw [← z, e6 _ _ (e5 _ _ (e4 _ _ hp3))] at hla2
            cases hla2
          · have hpre : pre1 s (tells M o pl, o ++ [pl]) = s := if_neg (fun z => by
              have := hb.symm.trans z
              cases this)
            rw [hpre]
            exact ⟨⟨⟨vb, la, ls, _, _, _, ⟨rfl, rfl, rfl, hpla⟩, rfl, fz_ex (e4.trans e5) fb, hla, e5 _ _ (e4 _ _ hls), fzl_ex (e4.trans e5) fl⟩, (eX3.trans e4).trans e5⟩, e5 _ _ (e4 _ _ hp3), fz_ex e5 ft⟩
          · have hpl2 := pre1_len s (tells M o pl, o ++ [pl])
            rw [step1_pre]
            generalize pre1 s (tells M o pl, o ++ [pl]) = s1 at hpl2
            rintro σ5 H5 ⟨⟨⟨vb5, la5, ls5, _, _, _, ⟨rfl, rfl, rfl, hpla5⟩, rfl, fb5, hla5, hls5, fl5⟩, eX5⟩, hp5, ft5⟩
            refine s_when (b := decide (some (tells M o pl) = s1.1)) (et_is (et_test (ev_eqD (ed_var rfl ft5) (ed_var rfl fb5) (Plain.of (tN_plain _)) (bD_plain _))) (eqv_bD _ _)) (fun hb H6 e6 => ?_) (fun hb H6 e6 => ?_)
            · rw [if_pos (of_decide_eq_true hb)]
              refine s_appD (d := tN (o ++ [pl])) (e6 _ _ hls5) (ev_var rfl) (ed_tup (ea_is (ea_star (ed_var rfl (fz_ex (eX5.trans e6) fo)) (ea_d (ed_ev (ev_var rfl) fz_int) ea_nil)) ?_) ?_) ?_ fun v H7 e7 f => ?_
              · rw [List.map_append, List.map_append]
                rfl
              · rw [List.length_map, List.length_append, O.len]
                show t + 1 ≤ 100000
                omega
              · rw [fzl_len fl5, List.length_map]
                omega
              · have h7 := e7 _ _ (e6 _ _ hls5)
                have tx := (tex_of (e6.trans e7)).trans (tex_lst (o := .lst (ls5 ++ [v])) h7)
                refine ⟨⟨⟨vb5, la5, _, _, _, _, ⟨rfl, hpla5⟩, rfl, Fz.mono tx _ _ fb5, hla5, upd_same, ?_⟩, (eX5.trans (e6.trans e7)).mut hla5⟩, ?_⟩
                · rw [List.map_append]
                  exact fzl_append (FzL.mono tx _ _ fl5) (fzl_cons (Fz.mono (tex_lst h7) _ _ f) fzl_nil)
                · rw [upd_ne hpla5]
                  exact e7 _ _ (e6 _ _ hp5)
            · rw [if_neg (of_decide_eq_false hb)]
              exact ⟨⟨⟨vb5, la5, ls5, _, _, _, ⟨rfl, hpla5⟩, rfl, fz_ex e6 fb5, hla5, e6 _ _ hls5, fzl_ex e6 fl5⟩, eX5.trans e6⟩, e6 _ _ hp5⟩
        · obtain ⟨⟨⟨vb, la, ls, _, z7, z8, ⟨rfl, hpla⟩, rfl, fb, hla, hls, fl⟩, eX3⟩, hp3⟩ := h
          have e1 : cand m M (os.take i) ++ (cand1 m M o).take (vN (rest m o)).length = cand m M (os.take (i + 1)) := by
            rw [take_get ho, cand_snoc, List.take_of_length_le (l := cand1 m M o) (by unfold cand1; rw [List.length_map, vN_len]; exact Nat.le_refl _)]
          rw [e1] at fb fl
          exact ⟨⟨vb, la, ls, _, z7, z8, trivial, rfl, fb, hla, hls, fl⟩, eX3⟩
      · obtain ⟨⟨vb, la, ls, z6, z7, z8, _, rfl, fb, hla, hls, fl⟩, eX2⟩ := h
        rw [List.take_of_length_le (by omega)] at fb fl
        have hne := cand_ne (M := M) htm
        rw [hos] at hne
        obtain ⟨b, hb, _, _⟩ := (scan_least (cand m M os)).2 hne
        have hlap : laps m M (t + 1) = ((laps m M t).1 ++ b, (scan (cand m M os)).2) := by
          show lapF m M (laps m M t) = _
          unfold lapF
          rw [hos, hb]
          rfl
        rw [hb] at fb
        rw [hlap]
        have hcl : ((laps m M t).1 ++ b).length ≤ 1000 := by
          obtain ⟨l1, l2⟩ := laps_ok m M (t + 1) (by omega)
          obtain ⟨o, ho⟩ := List.exists_mem_of_ne_nil _ l1
          obtain ⟨O, C⟩ := l2 o ho
          have := coded_len C (by rw [O.len]; omega)
          rw [hlap, O.len] at this
          show ((laps m M t).1 ++ b).length ≤ 1000
          have h2 : ((laps m M t).1 ++ b).length ≤ 13 * (t + 1) := this
          omega
        refine s_parM (c_cons (ed_tup (ds := ((laps m M t).1 ++ b).map fun n : Nat => PyData.int (n : Int)) (ea_is (ea_star (ed_var rfl (fz_ex eX2 fc)) (ea_star (ed_var rfl fb) ea_nil)) ?_) (by rw [List.length_map]; omega) H2 (Ex.refl _) _ fun v H5 e5 f => c_cons (ev_var rfl H5 (Ex.refl _) _ fun H6 e6 => c_nil ⟨_, _, rfl, ⟨v, la, ls, _, _, _, _, _, _, rfl, fz_ex e6 f, e6 _ _ (e5 _ _ hls), fzl_ex (e5.trans e6) fl⟩, ((eX.trans eX2).trans e5).trans e6⟩)))
        rw [List.append_nil, List.map_append, List.map_append]
    · obtain ⟨⟨vc, po, xs, z3, z4, z5, z6, z7, z8, rfl, fc, hpo, fx⟩, eX⟩ := h
      rw [Int.toNat_natCast] at fc fx
      refine s_retM (Evl.ea_cons (ev_var rfl) (Evl.ea_cons (ev_var rfl) Evl.ea_nil) H' (Ex.refl _) _ fun H1 e1 => ⟨sz_of (show 2 ≤ 100000 by decide), fun tp htp => k tp vc po xs _ ?_ upd_same ?_ ?_ ?_⟩)
      · exact eX.trans (e1.trans (Ex.new htp))
      · exact fz_ex (e1.trans (Ex.new htp)) fc
      · exact Ex.new htp _ _ (e1 _ _ hpo)
      · exact fzl_ex (e1.trans (Ex.new htp)) fx
end
end WT
/-! Positions from orders: the plain law. -/
namespace WT
open PySem PySem.Spec PyProof.Rows L2 Evl
def invN (k : Nat) (o : List Nat) : List Nat := (List.range k).map fun x => o.idxOf x
def zipPos (k : Nat) (o o' : List Nat) : List Nat := (List.range k).map fun x => o'.getD (o.idxOf x) 0
theorem ord_perm {k : Nat} {o : List Nat} (h : Ord k k o) : o.Perm (List.range k) := perm_of h.nd h.lt h.len
theorem tab_get {k : Nat} {f : Nat → Nat} {x : Nat} (h : x < k) : ((List.range k).map f)[x]? = some (f x) := by
  rw [List.getElem?_map, List.getElem?_range h]
  rfl
theorem tab_of {k : Nat} {f : Nat → Nat} {F : List Nat} (hl : F.length = k) (h : ∀ x, x < k → F[x]? = some (f x)) : F = (List.range k).map f := by
  refine List.ext_getElem? fun x => ?_
  by_cases hx : x < k
  · rw [h x hx, tab_get hx]
  · rw [List.getElem?_eq_none (by omega), List.getElem?_eq_none (by rw [List.length_map, List.length_range]; omega)]
theorem tab_perm {k : Nat} {f : Nat → Nat} (h1 : ∀ x, x < k → f x < k) (h2 : ∀ x y, x < k → y < k → f x = f y → x = y) : ((List.range k).map f).Perm (List.range k) := by
  refine perm_of ?_ ?_ (by rw [List.length_map, List.length_range])
  · refine List.pairwise_iff_getElem.mpr fun i j hi hj hij e => ?_
    rw [List.length_map, List.length_range] at hi hj
    simp at e
    have := h2 i j hi hj e
    omega
  · intro x hx
    obtain ⟨y, hy, rfl⟩ := List.mem_map.mp hx
    exact h1 y (List.mem_range.mp hy)
theorem idx_lt {k : Nat} {o : List Nat} (h : o.Perm (List.range k)) {x : Nat} (hx : x < k) : o.idxOf x < k ∧ o[o.idxOf x]? = some x := by
  have h1 := get_idx (h.mem_iff.mpr (List.mem_range.mpr hx))
  have h2 := (List.getElem?_eq_some_iff.mp h1).1
  have h3 := perm_len h
  exact ⟨by omega, h1⟩
theorem inv_perm {k : Nat} {o : List Nat} (h : o.Perm (List.range k)) : (invN k o).Perm (List.range k) := by
  refine tab_perm (fun x hx => (idx_lt h hx).1) fun x y hx hy e => ?_
  have h1 := (idx_lt h hx).2
  have h2 := (idx_lt h hy).2
  rw [e, h2] at h1
  exact (Option.some.inj h1).symm
theorem zip_perm {k : Nat} {o o' : List Nat} (h : o.Perm (List.range k)) (h' : o'.Perm (List.range k)) : (zipPos k o o').Perm (List.range k) := by
  have hl := perm_len h'
  have gd : ∀ x, x < k → o'[x]? = some (o'.getD x 0) := fun x hx => by
    rw [List.getD_eq_getElem?_getD, List.getElem?_eq_getElem (by omega)]
    rfl
  refine tab_perm (fun x hx => perm_lt h' (gd _ (idx_lt h hx).1)) fun x y hx hy e => ?_
  have h1 := idx_of_get (perm_nd h') (gd _ (idx_lt h hx).1)
  have h2 := idx_of_get (perm_nd h') (gd _ (idx_lt h hy).1)
  rw [e, h2] at h1
  have h3 := (idx_lt h hx).2
  have h4 := (idx_lt h hy).2
  rw [← h1, h4] at h3
  exact (Option.some.inj h3).symm
/-- the places of two orders of one code, each sent to its like -/
theorem zip_moves {k : Nat} {M N : List (List Nat)} {o o' c : List Nat} (hN : Sq k N) (h : Ord k k o) (h' : Ord k k o') (C : Coded M o c) (C' : Coded N o' c) : movedN k M (zipPos k o o') = N := by
  have p := ord_perm h
  have p' := ord_perm h'
  have hl := perm_len p'
  have gd : ∀ x, x < k → o'[x]? = some (o'.getD x 0) := fun x hx => by
    rw [List.getD_eq_getElem?_getD, List.getElem?_eq_getElem (by omega)]
    rfl
  refine moved_of (zip_perm p p') hN fun i j a b ha hb => ?_
  have hi : i < k := by
    have := (List.getElem?_eq_some_iff.mp ha).1
    rw [perm_len (zip_perm p p')] at this
    exact this
  have hj : j < k := by
    have := (List.getElem?_eq_some_iff.mp hb).1
    rw [perm_len (zip_perm p p')] at this
    exact this
  rw [zipPos, tab_get hi] at ha
  rw [zipPos, tab_get hj] at hb
  cases (Option.some.inj ha)
  cases (Option.some.inj hb)
  exact (coded_eq C C' (by rw [h.len, h'.len]) _ _ _ _ _ _ (idx_lt p hi).2 (idx_lt p hj).2 (gd _ (idx_lt p hi).1) (gd _ (idx_lt p hj).1)).symm
/-! ### the least picture -/
def leastD (k : Nat) (M : List (List Nat)) : PyData := match (laps k M k).2 with
  | [] => .none
  | o :: os => PySem.W.minD (tN (invN k o)) (os.map fun o => tN (invN k o))
def leastPos (k : Nat) (M : List (List Nat)) : List Nat := match leastD k M with
  | .tuple ds => ds.map gNat
  | _ => []
theorem minD_mem : ∀ (ds : List PyData) (d : PyData), PySem.W.minD d ds = d ∨ PySem.W.minD d ds ∈ ds
  | [], d => .inl rfl
  | e :: ds, d => by
    have h : PySem.W.minD d (e :: ds) = PySem.W.minD (if PySem.W.dataLt e d then e else d) ds := rfl
    rw [h]
    rcases minD_mem ds (if PySem.W.dataLt e d then e else d) with z | z
    · rw [z]
      split
      · exact .inr List.mem_cons_self
      · exact .inl rfl
    · exact .inr (List.mem_cons_of_mem _ z)
theorem gNat_tN (q : List Nat) : (q.map fun n : Nat => PyData.int (n : Int)).map gNat = q := by
  rw [List.map_map]
  have : q.map (gNat ∘ fun n : Nat => PyData.int (n : Int)) = q.map id := List.map_congr_left fun n _ => rfl
  rw [this, List.map_id]
theorem least_ok (k : Nat) (M : List (List Nat)) : leastD k M = tN (leastPos k M) ∧ (leastPos k M).Perm (List.range k) := by
  obtain ⟨l1, l2⟩ := laps_ok k M k (Nat.le_refl _)
  have h : ∃ o ∈ (laps k M k).2, leastD k M = tN (invN k o) := by
    unfold leastD
    split
    · rename_i h
      exact absurd h l1
    · rename_i o os h
      rw [h]
      rcases minD_mem (os.map fun o => tN (invN k o)) (tN (invN k o)) with z | z
      · exact ⟨o, List.mem_cons_self, z⟩
      · obtain ⟨o', ho', e⟩ := List.mem_map.mp z
        exact ⟨o', List.mem_cons_of_mem _ ho', e.symm⟩
  obtain ⟨o, ho, e⟩ := h
  have e2 : leastPos k M = invN k o := by
    unfold leastPos
    rw [e]
    exact gNat_tN _
  rw [e2]
  exact ⟨e, inv_perm (ord_perm (l2 o ho).1)⟩
/-! ### same pictures -/
theorem moved_pic {k : Nat} {M : List (List Nat)} {q : List Nat} (h : ∀ r ∈ M, ∀ x ∈ r, x ≤ 2) : ∀ r ∈ movedN k M q, ∀ x ∈ r, x ≤ 2 := by
  have ha : ∀ i j, at2 M i j ≤ 2 := fun i j => by
    unfold at2
    rw [List.getD_eq_getElem?_getD, List.getD_eq_getElem?_getD]
    cases z : M[i]? with
    | none => simp
    | some r =>
      rw [Option.getD_some]
      cases z2 : r[j]? with
      | none => simp
      | some x => exact h r (List.mem_of_getElem? z) x (List.mem_of_getElem? z2)
  intro r hr x hx
  obtain ⟨a, _, rfl⟩ := List.mem_map.mp hr
  obtain ⟨b, _, rfl⟩ := List.mem_map.mp hx
  exact ha _ _
/-- if the pictures moved to their least are one, one can be moved to the other -/
theorem moved_back {k : Nat} {M N : List (List Nat)} {p q : List Nat} (hN : Sq k N) (hp : p.Perm (List.range k)) (hq : q.Perm (List.range k)) (e : movedN k M p = movedN k N q) : ∃ r, r.Perm (List.range k) ∧ movedN k M r = N := by
  have hql := perm_len hq
  have hpl := perm_len hp
  have gp : ∀ x, x < k → p[x]? = some (p.getD x 0) := fun x hx => by
    rw [List.getD_eq_getElem?_getD, List.getElem?_eq_getElem (by omega)]
    rfl
  have hr : ((List.range k).map fun x => q.idxOf (p.getD x 0)).Perm (List.range k) := by
    refine tab_perm (fun x hx => (idx_lt hq (perm_lt hp (gp x hx))).1) fun x y hx hy z => ?_
    have h1 := (idx_lt hq (perm_lt hp (gp x hx))).2
    have h2 := (idx_lt hq (perm_lt hp (gp y hy))).2
    rw [z, h2] at h1
    have h3 := idx_of_get (perm_nd hp) (gp x hx)
    have h4 := idx_of_get (perm_nd hp) (gp y hy)
    rw [← Option.some.inj h1, h4] at h3
    exact h3.symm
  refine ⟨_, hr, moved_of hr hN fun i j a b ha hb => ?_⟩
  have hi : i < k := by
    have := (List.getElem?_eq_some_iff.mp ha).1
    rw [perm_len hr] at this
    exact this
  have hj : j < k := by
    have := (List.getElem?_eq_some_iff.mp hb).1
    rw [perm_len hr] at this
    exact this
  rw [tab_get hi] at ha
  rw [tab_get hj] at hb
  cases (Option.some.inj ha)
  cases (Option.some.inj hb)
  rw [← moved_at (M := M) hp (gp i hi) (gp j hj), e]
  exact (moved_at hq (idx_lt hq (perm_lt hp (gp i hi))).2 (idx_lt hq (perm_lt hp (gp j hj))).2).symm
end WT
/-! The program's least pictures and same pictures, read. -/
namespace WT
open PySem PySem.Spec PyProof.Rows L2 Evl
def rPosBy (as : List Ag) (d : PyData) : Prop := ∃ (k : Nat) (o : List Nat), as = [.d (tN o)] ∧ k ≤ 5 ∧ o.Perm (List.range k) ∧ d = tN (invN k o)
def leastPic (k : Nat) (M : List (List Nat)) : List (List Nat) := movedN k M (leastPos k M)
def rLeast (as : List Ag) (d : PyData) : Prop := ∃ (k : Nat) (M : List (List Nat)), as = [.d (tNN M)] ∧ Pic k M ∧ d = .tuple [tNN (leastPic k M), tN (leastPos k M)]
def samePos (k : Nat) (M N : List (List Nat)) : List Nat := zipPos k ((laps k M k).2.headD []) ((laps k N k).2.headD [])
def sameD (k : Nat) (M N : List (List Nat)) : PyData := if (laps k M k).1 = (laps k N k).1 then .tuple [.str "position", tN (samePos k M N)] else .tuple [.str "least", tNN (leastPic k M), tNN (leastPic k N)]
def rSame (as : List Ag) (d : PyData) : Prop := ∃ (k : Nat) (M N : List (List Nat)), as = [.d (tNN M), .d (tNN N)] ∧ Pic k M ∧ Pic k N ∧ d = sameD k M N
def rShows (as : List Ag) (d : PyData) : Prop := ∃ (k : Nat) (M N : List (List Nat)) (v : PyData), as = [.d (tNN M), .d (tNN N), .d v] ∧ Pic k M ∧ Pic k N ∧
  ((∃ q : List Nat, v = .tuple [.str "position", tN q] ∧ q.Perm (List.range k) ∧ movedN k M q = N) ∨ (v = .tuple [.str "least", tNN (leastPic k M), tNN (leastPic k N)] ∧ leastPic k M ≠ leastPic k N)) ∧ d = .bool true
theorem least_pic {k : Nat} {M : List (List Nat)} (h : Pic k M) : Pic k (leastPic k M) := ⟨h.pos, h.le, moved_sq.len, moved_sq.row, moved_pic h.mark⟩
theorem alike_ints : ∀ a b : List Nat, PySem.W.alikeAll (a.map fun n : Nat => PyData.int (n : Int)) (b.map fun n : Nat => PyData.int (n : Int)) = true
  | [], _ => by simp [PySem.W.alikeAll]
  | _ :: _, [] => by simp [PySem.W.alikeAll]
  | x :: a, y :: b => by
    rw [List.map_cons, List.map_cons, PySem.W.alikeAll, alike_ints a b]
    simp [PySem.W.alike]
theorem alike_tN (a b : List Nat) : PySem.W.alike (tN a) (tN b) = true := by
  unfold tN
  rw [PySem.W.alike]
  exact alike_ints a b
theorem orders_take {k : Nat} {M : List (List Nat)} : ∃ o os, (laps k M k).2 = o :: os ∧ ((laps k M k).2.headD [] = o) ∧ Ord k k o ∧ Coded M o (laps k M k).1 := by
  obtain ⟨l1, l2⟩ := laps_ok k M k (Nat.le_refl _)
  cases h : (laps k M k).2 with
  | nil => exact absurd h l1
  | cons o os => exact ⟨o, os, rfl, rfl, l2 o (by rw [h]; exact List.mem_cons_self)⟩
section
variable {P : Program} {w : World} {K : PySem.W.Frag} {mg : Str → Option Value} {base : Heap}
theorem ok_posby (B : Bt mg) (d : DefIn K mg "position_by" ["order"] s_position_by) : Okd P w K mg base "position_by" ["order"] s_position_by 1 (spD K 1 rPosBy) := by
  refine Okd.mk d sc_position_by (fun vs H Q E h => spD_len h) (fun f cdv A outer s H vs Q E hr h => ?_)
  obtain ⟨as, d, _, hv, ⟨m, o, rfl, hm, ho, rfl⟩, k⟩ := h
  obtain ⟨y, rfl, hy⟩ := agl1 hv
  replace hy := agd hy
  have hl := perm_len ho
  refine ⟨_, (pss_cons (ps_set (i := 1) sc_position_by.nd rfl (Or.inl rfl) (pe_op op_rep (pe_lst (pa_cons pe_int pa_nil)) (pe_callB call_len_seq (by rfl) B.len boot_len (pa_cons (pv 0) pa_nil))))
      (pss_cons (ps_for PassesOwn.never rfl (pi_enumT (by rfl) B.enumerate (pa_cons (pv 0) pa_nil)) (pg_tup (by rfl) (pgs_cons (pg_name (i := 2) sc_position_by.nd rfl (Or.inl rfl)) (pgs_cons (pg_name (i := 3) sc_position_by.nd rfl (Or.inl rfl)) pgs_nil))) (pss_one (ps_asg (pv 2) (pg_sub (pv 1) (pv 3) set_list))))
      (pss_one (ps_ret (pe_callTy call_tuple_of (by rfl) B.tuple boot_tuple (pa_cons (pv 1) pa_nil)))))), ?_⟩
  refine q_asgE (K := K) (ds := List.replicate m (.int ((0 : Nat) : Int))) (el_rep (WT.el_lst (ea_d (ed_ev ev_c fz_int) ea_nil) (by decide)) (ev_is (ev_lenT (ed_var rfl hy)) (by rw [List.length_map, hl])) (by omega)) fun l xs H1 hl0 e1 h1 f1 => ?_
  have hx1 : xs = vN (List.replicate m 0) := by
    exact (fzl_nats (K := K) (H := H1) (ns := List.replicate m 0)).mp (by rw [List.map_replicate]; exact f1)
  subst hx1
  refine q_forEn (ed_var rfl (fz_ex e1 hy)) fun H2 e2 => ⟨fun i σ' H' => (∃ z2 z3, σ' = [some y, some (.ref l), z2, z3]) ∧ TEx H2 H' ∧ Ex H H' ∧ ∃ F, H' l = some (.lst (vN F)) ∧ F.length = m ∧ ∀ j a, j < i → o[j]? = some a → F[a]? = some j,
    ⟨⟨none, none, rfl⟩, TEx.refl _, e1.trans e2, List.replicate m 0, e2 _ _ h1, List.length_replicate, fun j a hj => absurd hj (Nat.not_lt_zero _)⟩, fun i σ' H' h => h.2.1, ?_, ?_⟩
  · rintro i x d σ' H' H'' hd eH hx ⟨⟨z2, z3, rfl⟩, tx, eX, F, hF, hFl, inv⟩
    obtain ⟨a, ha, rfl⟩ := tN_get hd
    have hxx := fz_intI hx
    subst hxx
    have ham := perm_lt ho ha
    refine s_setL (v := .int (i : Int)) (eH _ _ hF) (ev_var rfl) (ev_var rfl) (ev_var rfl) (by rw [vN_len, hFl]; exact ham) fun H3 e3 => ⟨⟨_, _, rfl⟩, (tx.trans (tex_of (eH.trans e3))).trans (tex_lst (e3 _ _ (eH _ _ hF))), (eX.trans (eH.trans e3)).mut hl0, F.set a i, ?_, by rw [List.length_set, hFl], fun j b hj hb => ?_⟩
    · unfold vN
      rw [List.map_set]
      exact upd_same
    · rw [List.getElem?_set]
      by_cases hab : a = b
      · subst hab
        have hij : i = j := (List.getElem?_inj (List.getElem?_eq_some_iff.mp ha).1 (perm_nd ho)).mp (by rw [ha, hb])
        subst hij
        rw [if_pos rfl, if_pos (by omega)]
      · rw [if_neg hab]
        refine inv j b ?_ hb
        rcases Nat.lt_or_eq_of_le (Nat.le_of_lt_succ hj) with z | z
        · exact z
        · subst z
          rw [ha] at hb
          exact absurd (Option.some.inj hb) hab
  · rintro σ' H' ⟨⟨z2, z3, rfl⟩, tx, eX, F, hF, hFl, inv⟩
    have e : F = invN m o := tab_of hFl fun x hx => by
      obtain ⟨h1, h2⟩ := idx_lt ho hx
      exact inv _ _ (by rw [List.length_map]; omega) h2
    refine s_retD (K := K) (ed_tupOfL (ev_var rfl) (sq_of hF) (fzl_nats.mpr rfl)) fun v H3 e3 f => k v H3 (eX.trans e3) ?_
    rw [← e]
    exact f
theorem ok_least (B : Bt mg) (o_look_at_picture : Okd P w K mg base "look_at_picture" ["picture"] s_look_at_picture 3 (spD K 1 rLook)) (o_least_orders : Okd P w K mg base "least_orders" ["picture"] s_least_orders 2 (spOrders K))
    (o_position_by : Okd P w K mg base "position_by" ["order"] s_position_by 1 (spD K 1 rPosBy)) (o_told_moved : Okd P w K mg base "told_moved" ["picture", "position"] s_told_moved 1 (spD K 2 rMoved))
    (d : DefIn K mg "least_picture" ["picture"] s_least_picture) : Okd P w K mg base "least_picture" ["picture"] s_least_picture 4 (spD K 1 rLeast) := by
  refine Okd.mk d sc_least_picture (fun vs H Q E h => spD_len h) (fun f cdv A outer s H vs Q E hr h => ?_)
  obtain ⟨as, d, _, hv, ⟨m, M, rfl, hM, rfl⟩, k⟩ := h
  obtain ⟨y, rfl, hy⟩ := agl1 hv
  replace hy := agd hy
  have hm := hM.le
  refine ⟨_, (pss_cons (ps_expr (pe_fn o_look_at_picture (hr.mono (by decide)) (pa_cons (pv 0) pa_nil)))
      (pss_cons (ps_asg (pe_fn o_least_orders (hr.mono (by decide)) (pa_cons (pv 0) pa_nil)) (pg_tup (by rfl) (pgs_cons (pg_name (i := 1) sc_least_picture.nd rfl (Or.inl rfl)) (pgs_cons (pg_name (i := 2) sc_least_picture.nd rfl (Or.inl rfl)) pgs_nil))))
      (pss_cons (ps_set (i := 3) sc_least_picture.nd rfl (Or.inl rfl) (pe_callB (cr_minD rfl (room64 hr)) (by rfl) B.min boot_min (pa_cons (pe_lc (own := [("order", 4)]) rfl sc_least_picture.nd (pi_list (pv 2)) (blkOk_by (own := [("order", 4)]) (N := N_least_picture) (sc := defScope s_least_picture) (by decide +kernel)) (fun _ _ _ _ _ => pg_name (i := 4) sc_least_picture.nd rfl (Or.inl rfl)) (fun _ _ _ _ _ => pts_nil) (fun _ _ _ _ _ => (pe_fn o_position_by (hr.mono (by decide)) (pa_cons (pv 4) pa_nil)))) pa_nil)))
      (pss_one (ps_ret (pe_tup (pa_cons (pe_fn o_told_moved (hr.mono (by decide)) (pa_cons (pv 0) (pa_cons (pv 3) pa_nil))) (pa_cons (pv 3) pa_nil)))))))), ?_⟩
  refine q_dropD (ed_call (ea_d (ed_var rfl hy) ea_nil) (pr_D ⟨m, M, rfl, hM, rfl⟩)) fun H1 e1 => ?_
  refine q_asgM (c_call (Evl.ea_cons (ev_var rfl) Evl.ea_nil H1 (Ex.refl _) _ fun H2 e2 => ⟨m, M, y, rfl, hM.sq, hm, fz_ex (e1.trans e2) hy, fun t vc po xs H3 e3 ht fc hpo fx => g2_pair ht ?_⟩))
  obtain ⟨o, os, hos, _, O, C⟩ := orders_take (k := m) (M := M)
  obtain ⟨l1, l2⟩ := laps_ok m M m (Nat.le_refl _)
  obtain ⟨q1, q2⟩ := least_ok m M
  have hmin : leastD m M = PySem.W.minD (tN (invN m o)) (os.map fun o => tN (invN m o)) := by
    unfold leastD
    rw [hos]
  have e13 := (e1.trans e2).trans e3
  have hsz := laps_len hm M m
  have h5 := pow5 hm
  refine q_asgD (d := tN (leastPos m M)) (ed_is (ed_minN (d := tN (invN m o)) (ds := os.map fun o => tN (invN m o)) (el_mapL (ev_var rfl) (sq_of hpo) fx (by rw [List.length_map]; omega) (by rw [hos]; simp) (fun _ => rfl) fun i x d e H4 e4 hd he f => ?_) ⟨?_, ?_⟩ ?_) (by rw [← q1, hmin])) fun v H4 e4 f4 => ?_
  · obtain ⟨o1, ho1, rfl⟩ := map_get hd
    rw [hos] at ho1
    rw [show tN (invN m o) :: os.map (fun o => tN (invN m o)) = (o :: os).map fun o => tN (invN m o) from rfl, List.getElem?_map, ho1] at he
    cases (Option.some.inj he)
    exact ed_call (ea_d (ed_var rfl f) ea_nil) (pr_D ⟨m, o1, rfl, hm, ord_perm (l2 o1 (by rw [hos]; exact List.mem_of_getElem? ho1)).1, rfl⟩)
  · intro x hx z hz
    rw [show tN (invN m o) :: os.map (fun o => tN (invN m o)) = (o :: os).map fun o => tN (invN m o) from rfl] at hx hz
    obtain ⟨a, _, rfl⟩ := List.mem_map.mp hx
    obtain ⟨b, _, rfl⟩ := List.mem_map.mp hz
    exact alike_tN _ _
  · intro x hx
    rw [show tN (invN m o) :: os.map (fun o => tN (invN m o)) = (o :: os).map fun o => tN (invN m o) from rfl] at hx
    obtain ⟨a, _, rfl⟩ := List.mem_map.mp hx
    exact fun z => nomatch z
  · refine Nat.le_trans (depthAll_le (n := 1) fun x hx => ?_) (by decide)
    rw [show tN (invN m o) :: os.map (fun o => tN (invN m o)) = (o :: os).map fun o => tN (invN m o) from rfl] at hx
    obtain ⟨a, _, rfl⟩ := List.mem_map.mp hx
    exact (tN_plain _).2
  · refine s_retD (ed_tup (ds := [tNN (leastPic m M), tN (leastPos m M)]) (ea_d (ed_call (ea_d (ed_var rfl (fz_ex (e13.trans e4) hy)) (ea_d (ed_var rfl f4) ea_nil)) (pr_D ⟨m, M, leastPos m M, rfl, hM.sq, hm, q2, rfl⟩)) (ea_d (ed_var rfl f4) ea_nil)) (show 2 ≤ 100000 by decide)) fun v5 H5 e5 f5 => k v5 H5 ((e13.trans e4).trans e5) f5
theorem ok_same (B : Bt mg) (C : Cs mg) (o_look_at_pictures : Okd P w K mg base "look_at_pictures" ["one", "other"] s_look_at_pictures 4 (spD K 2 rLooks)) (o_least_orders : Okd P w K mg base "least_orders" ["picture"] s_least_orders 2 (spOrders K))
    (o_least_picture : Okd P w K mg base "least_picture" ["picture"] s_least_picture 4 (spD K 1 rLeast))
    (d : DefIn K mg "same_picture" ["one", "other"] s_same_picture) : Okd P w K mg base "same_picture" ["one", "other"] s_same_picture 5 (spD K 2 rSame) := by
  refine Okd.mk d sc_same_picture (fun vs H Q E h => spD_len h) (fun f cdv A outer s H vs Q E hr h => ?_)
  obtain ⟨as, d, _, hv, ⟨m, M, N, rfl, hM, hN, rfl⟩, k⟩ := h
  obtain ⟨y, z, rfl, hy, hz⟩ := agl2 hv
  replace hy := agd hy
  replace hz := agd hz
  have hm := hM.le
  obtain ⟨_, c_position⟩ := C.position
  obtain ⟨_, c_least⟩ := C.least
  refine ⟨_, (pss_cons (ps_expr (pe_fn o_look_at_pictures (hr.mono (by decide)) (pa_cons (pv 0) (pa_cons (pv 1) pa_nil))))
      (pss_cons (ps_asg (pe_fn o_least_orders (hr.mono (by decide)) (pa_cons (pv 0) pa_nil)) (pg_tup (by rfl) (pgs_cons (pg_name (i := 2) sc_same_picture.nd rfl (Or.inl rfl)) (pgs_cons (pg_name (i := 3) sc_same_picture.nd rfl (Or.inl rfl)) pgs_nil))))
      (pss_cons (ps_asg (pe_fn o_least_orders (hr.mono (by decide)) (pa_cons (pv 1) pa_nil)) (pg_tup (by rfl) (pgs_cons (pg_name (i := 4) sc_same_picture.nd rfl (Or.inl rfl)) (pgs_cons (pg_name (i := 5) sc_same_picture.nd rfl (Or.inl rfl)) pgs_nil))))
      (pss_cons (ps_if (pt_cmpR (op_neD (room64 hr)) (pv 2) (pv 4) (nomark _)) (pss_one (ps_ret (pe_tup (pa_cons (pe_glob (v := .str "least") rfl c_least ⟨_, rfl⟩) (pa_cons (pe_ix ix_tup (pe_fn o_least_picture (hr.mono (by decide)) (pa_cons (pv 0) pa_nil)) pe_int (fun _ _ => rfl)) (pa_cons (pe_ix ix_tup (pe_fn o_least_picture (hr.mono (by decide)) (pa_cons (pv 1) pa_nil)) pe_int (fun _ _ => rfl)) pa_nil)))))) pss_nil)
      (pss_cons (ps_set (i := 6) sc_same_picture.nd rfl (Or.inl rfl) (pe_op op_rep (pe_lst (pa_cons pe_int pa_nil)) (pe_callB call_len_seq (by rfl) B.len boot_len (pa_cons (pv 0) pa_nil))))
      (pss_cons (ps_for PassesOwn.never rfl (RZ.pi_zipA (by rfl) B.zip (pa_cons (pe_ix ix_list (pv 3) pe_int (fun _ _ => rfl)) (pa_cons (pe_ix ix_list (pv 5) pe_int (fun _ _ => rfl)) pa_nil))) (pg_tup (by rfl) (pgs_cons (pg_name (i := 7) sc_same_picture.nd rfl (Or.inl rfl)) (pgs_cons (pg_name (i := 8) sc_same_picture.nd rfl (Or.inl rfl)) pgs_nil))) (pss_one (ps_asg (pv 8) (pg_sub (pv 6) (pv 7) set_list))))
      (pss_one (ps_ret (pe_tup (pa_cons (pe_glob (v := .str "position") rfl c_position ⟨_, rfl⟩) (pa_cons (pe_callTy call_tuple_of (by rfl) B.tuple boot_tuple (pa_cons (pv 6) pa_nil)) pa_nil))))))))))), ?_⟩
  refine q_dropD (ed_call (ea_d (ed_var rfl hy) (ea_d (ed_var rfl hz) ea_nil)) (pr_D ⟨m, M, N, rfl, hM, hN, rfl⟩)) fun H1 e1 => ?_
  refine q_asgM (c_call (Evl.ea_cons (ev_var rfl) Evl.ea_nil H1 (Ex.refl _) _ fun H2 e2 => ⟨m, M, y, rfl, hM.sq, hm, fz_ex (e1.trans e2) hy, fun t vc po xs H3 e3 ht fc hpo fx => g2_pair ht ?_⟩))
  refine q_asgM (c_call (Evl.ea_cons (ev_var rfl) Evl.ea_nil H3 (Ex.refl _) _ fun H4 e4 => ⟨m, N, z, rfl, hN.sq, hm, fz_ex (((e1.trans e2).trans e3).trans e4) hz, fun t2 vc2 po2 xs2 H5 e5 ht2 fc2 hpo2 fx2 => g2_pair ht2 ?_⟩))
  have e13 := (e1.trans e2).trans e3
  have e35 := e4.trans e5
  have e15 := e13.trans e35
  obtain ⟨o, os, hos, hoh, O, Co⟩ := orders_take (k := m) (M := M)
  obtain ⟨o', os', hos', hoh', O', Co'⟩ := orders_take (k := m) (M := N)
  refine q_when (b := !decide ((laps m M m).1 = (laps m N m).1)) (et_is (et_test (ev_neD (ed_var rfl (fz_ex e35 fc)) (ed_var rfl fc2) (Plain.of (tN_plain _)) (Plain.of (tN_plain _)))) ?_) (fun hb H6 e6 => ?_) (fun hb H6 e6 => ?_)
  · congr 1
    rw [Bool.eq_iff_iff, eqv_iff _ _ (tN_plain _).1 (tN_plain _).1, decide_eq_true_eq]
    exact ⟨fun h => tN_inj h, fun h => by rw [h]⟩
  · have hne : ¬ (laps m M m).1 = (laps m N m).1 := fun h => by
      rw [decide_eq_true h] at hb
      cases hb
    have hD : sameD m M N = .tuple [.str "least", tNN (leastPic m M), tNN (leastPic m N)] := if_neg hne
    rw [hD] at k
    have e16 := e15.trans e6
    refine s_retD (ed_tup (ds := [.str "least", tNN (leastPic m M), tNN (leastPic m N)]) (ea_d (ed_ev ev_c fz_str) (ea_d (ed_ixT (i := 0) (ed_call (ea_d (ed_var rfl (fz_ex e16 hy)) ea_nil) (pr_D ⟨m, M, rfl, hM, rfl⟩)) ev_c rfl) (ea_d (ed_ixT (i := 0) (ed_call (ea_d (ed_var rfl (fz_ex e16 hz)) ea_nil) (pr_D ⟨m, N, rfl, hN, rfl⟩)) ev_c rfl) ea_nil))) (show 3 ≤ 100000 by decide)) fun v H7 e7 f => k v H7 (e16.trans e7) f
  · have heq : (laps m M m).1 = (laps m N m).1 := Classical.byContradiction fun h => by
      rw [decide_eq_false h] at hb
      cases hb
    have hD : sameD m M N = .tuple [.str "position", tN (samePos m M N)] := if_pos heq
    rw [hD] at k
    have e16 := e15.trans e6
    have ppo := ord_perm O
    have ppo' := ord_perm O'
    refine q_asgE (K := K) (ds := List.replicate m (.int ((0 : Nat) : Int))) (el_rep (WT.el_lst (ea_d (ed_ev ev_c fz_int) ea_nil) (by decide)) (ev_is (ev_lenT (ed_var rfl (fz_ex e16 hy))) (by rw [List.length_map, hM.len])) (by omega)) fun l ys H7 hl7 e7 h7 f7 => ?_
    have hx1 : ys = vN (List.replicate m 0) := by
      exact (fzl_nats (K := K) (H := H7) (ns := List.replicate m 0)).mp (by rw [List.map_replicate]; exact f7)
    subst hx1
    have hl0 : H l = none := fresh_back e16 hl7
    refine q_forZip (ds := o.map fun n : Nat => PyData.int (n : Int)) (es := o'.map fun n : Nat => PyData.int (n : Int)) (ed_ixL (i := 0) (ev_var rfl) (sq_of (e7 _ _ (e6 _ _ (e35 _ _ hpo)))) (fzl_ex ((e35.trans e6).trans e7) fx) ev_c (by rw [hos]; rfl)) (ed_ixL (i := 0) (ev_var rfl) (sq_of (e7 _ _ (e6 _ _ hpo2))) (fzl_ex (e6.trans e7) fx2) ev_c (by rw [hos']; rfl)) (by rw [List.length_map, List.length_map, O.len, O'.len]) fun H8 e8 =>
      ⟨fun i σ' H' => (∃ z7 z8, σ' = [some y, some z, some vc, some (.ref po), some vc2, some (.ref po2), some (.ref l), z7, z8]) ∧ TEx H8 H' ∧ Ex H H' ∧ ∃ F, H' l = some (.lst (vN F)) ∧ F.length = m ∧ ∀ j a b, j < i → o[j]? = some a → o'[j]? = some b → F[a]? = some b,
        ⟨⟨none, none, rfl⟩, TEx.refl _, (e16.trans e7).trans e8, List.replicate m 0, e8 _ _ h7, List.length_replicate, fun j a b hj => absurd hj (Nat.not_lt_zero _)⟩, fun i σ' H' h => h.2.1, ?_, ?_⟩
    · rintro i x x2 d d2 σ' H' H'' hd hd2 eH hx hx2 ⟨⟨z7, z8, rfl⟩, tx, eX, F, hF, hFl, inv⟩
      obtain ⟨a, ha, rfl⟩ := tN_get hd
      obtain ⟨b, hb2, rfl⟩ := tN_get hd2
      have hxx := fz_intI hx
      subst hxx
      have hxx2 := fz_intI hx2
      subst hxx2
      have ham := perm_lt (ord_perm O) ha
      refine s_setL (v := .int (b : Int)) (eH _ _ hF) (ev_var rfl) (ev_var rfl) (ev_var rfl) (by rw [vN_len, hFl]; exact ham) fun H3 e3 => ⟨⟨_, _, rfl⟩, (tx.trans (tex_of (eH.trans e3))).trans (tex_lst (e3 _ _ (eH _ _ hF))), (eX.trans (eH.trans e3)).mut hl0, F.set a b, ?_, by rw [List.length_set, hFl], fun j c c2 hj hc hc2 => ?_⟩
      · unfold vN
        rw [List.map_set]
        exact upd_same
      · rw [List.getElem?_set]
        by_cases hac : a = c
        · subst hac
          have hij : i = j := (List.getElem?_inj (List.getElem?_eq_some_iff.mp ha).1 O.nd).mp (by rw [ha, hc])
          subst hij
          rw [hb2] at hc2
          rw [if_pos rfl, if_pos (by omega), hc2]
        · rw [if_neg hac]
          refine inv j c c2 ?_ hc hc2
          rcases Nat.lt_or_eq_of_le (Nat.le_of_lt_succ hj) with z | z
          · exact z
          · subst z
            rw [ha] at hc
            exact absurd (Option.some.inj hc) hac
    · rintro σ' H' ⟨⟨z7, z8, rfl⟩, tx, eX, F, hF, hFl, inv⟩
      have e : F = samePos m M N := by
        unfold samePos
        rw [hoh, hoh']
        refine tab_of hFl fun x hx => ?_
        obtain ⟨h1, h2⟩ := idx_lt (ord_perm O) hx
        have hl' := O'.len
        have g2 : o'[o.idxOf x]? = some (o'.getD (o.idxOf x) 0) := by
          rw [List.getD_eq_getElem?_getD, List.getElem?_eq_getElem (by omega)]
          rfl
        exact inv _ _ _ (by rw [List.length_map, O.len]; omega) h2 g2
      subst e
      refine s_retD (ed_tup (ds := [.str "position", tN (samePos m M N)]) (ea_d (ed_ev ev_c fz_str) (ea_d (ed_tupOfL (ev_var rfl) (sq_of hF) (fzl_nats.mpr rfl)) ea_nil)) (show 2 ≤ 100000 by decide)) fun v H3 e3 f => k v H3 (eX.trans e3) f
theorem ok_shows (B : Bt mg) (C : Cs mg) (o_look_at_pictures : Okd P w K mg base "look_at_pictures" ["one", "other"] s_look_at_pictures 4 (spD K 2 rLooks)) (o_is_position_of : Okd P w K mg base "is_position_of" ["many", "value"] s_is_position_of 2 (spD K 2 rIsPos))
    (o_told_moved : Okd P w K mg base "told_moved" ["picture", "position"] s_told_moved 1 (spD K 2 rMoved)) (o_is_picture : Okd P w K mg base "is_picture" ["value"] s_is_picture 2 (spD K 1 rIsPic))
    (o_least_picture : Okd P w K mg base "least_picture" ["picture"] s_least_picture 4 (spD K 1 rLeast))
    (d : DefIn K mg "shows_same_picture" ["one", "other", "value"] s_shows_same_picture) : Okd P w K mg base "shows_same_picture" ["one", "other", "value"] s_shows_same_picture 5 (spD K 3 rShows) := by
  refine Okd.mk d sc_shows_same_picture (fun vs H Q E h => spD_len h) (fun f cdv A outer s H vs Q E hr h => ?_)
  obtain ⟨as, d, _, hv, ⟨m, M, N, v, rfl, hM, hN, hcase, rfl⟩, k⟩ := h
  obtain ⟨y, z, x, rfl, hy, hz, hx⟩ := agl3 hv
  replace hy := agd hy
  replace hz := agd hz
  replace hx := agd hx
  have hm := hM.le
  obtain ⟨_, c_position⟩ := C.position
  obtain ⟨_, c_least⟩ := C.least
  refine ⟨_, (pss_cons (ps_expr (pe_fn o_look_at_pictures (hr.mono (by decide)) (pa_cons (pv 0) (pa_cons (pv 1) pa_nil))))
      (pss_cons (ps_if (PW.pt (pw_or (pt_not (pt_val (pe_callB call_isi (by rfl) B.isinstance boot_isinstance (pa_cons (pv 2) (pa_cons (pe_bltn (v := V.ty "tuple") (u := Value.type "tuple") (by rfl) B.tuple boot_tuple rfl) pa_nil))))) (pw_or (pt_cmpR op_notIn_seq (pe_callB call_len_seq (by rfl) B.len boot_len (pa_cons (pv 2) pa_nil)) (pe_tup (pa_cons pe_int (pa_cons (pe_op op_add pe_int pe_int) pa_nil))) (by rfl)) (pw_or1 (pt_not (pt_val (pe_callB call_isi (by rfl) B.isinstance boot_isinstance (pa_cons (pe_ix ix_tup (pv 2) pe_int (fun _ _ => rfl)) (pa_cons (pe_bltn (v := V.ty "str") (u := Value.type "str") (by rfl) B.str boot_str rfl) pa_nil))))))))) (pss_one (ps_ret pe_bl)) pss_nil)
      (pss_cons (ps_if (pt_cmpR op_eq (pe_callB call_len_seq (by rfl) B.len boot_len (pa_cons (pv 2) pa_nil)) pe_int (nomark _)) (pss_one (ps_ret (pe_and (pe_cmpR op_eq (pe_ix ix_tup (pv 2) pe_int (fun _ _ => rfl)) (pe_glob (v := .str "position") rfl c_position ⟨_, rfl⟩) (nomark _)) (pe_and (pe_fn o_is_position_of (hr.mono (by decide)) (pa_cons (pe_callB call_len_seq (by rfl) B.len boot_len (pa_cons (pv 0) pa_nil)) (pa_cons (pe_ix ix_tup (pv 2) pe_int (fun _ _ => rfl)) pa_nil))) (pe_one (pe_cmpR (op_eqD (room64 hr)) (pe_fn o_told_moved (hr.mono (by decide)) (pa_cons (pv 0) (pa_cons (pe_ix ix_tup (pv 2) pe_int (fun _ _ => rfl)) pa_nil))) (pv 1) (nomark _))))))) pss_nil)
      (pss_cons (ps_if (PW.pt (pw_or (pt_cmpR op_ne (pe_ix ix_tup (pv 2) pe_int (fun _ _ => rfl)) (pe_glob (v := .str "least") rfl c_least ⟨_, rfl⟩) (nomark _)) (pw_or (pt_not (pt_val (pe_fn o_is_picture (hr.mono (by decide)) (pa_cons (pe_ix ix_tup (pv 2) pe_int (fun _ _ => rfl)) pa_nil)))) (pw_or (pt_not (pt_val (pe_fn o_is_picture (hr.mono (by decide)) (pa_cons (pe_ix ix_tup (pv 2) pe_int (fun _ _ => rfl)) pa_nil)))) (pw_or1 (pt_cmpR (op_eqD (room64 hr)) (pe_ix ix_tup (pv 2) pe_int (fun _ _ => rfl)) (pe_ix ix_tup (pv 2) pe_int (fun _ _ => rfl)) (nomark _))))))) (pss_one (ps_ret pe_bl)) pss_nil)
      (pss_one (ps_ret (pe_and (pe_cmpR (op_eqD (room64 hr)) (pe_ix ix_tup (pv 2) pe_int (fun _ _ => rfl)) (pe_ix ix_tup (pe_fn o_least_picture (hr.mono (by decide)) (pa_cons (pv 0) pa_nil)) pe_int (fun _ _ => rfl)) (nomark _)) (pe_one (pe_cmpR (op_eqD (room64 hr)) (pe_ix ix_tup (pv 2) pe_int (fun _ _ => rfl)) (pe_ix ix_tup (pe_fn o_least_picture (hr.mono (by decide)) (pa_cons (pv 1) pa_nil)) pe_int (fun _ _ => rfl)) (nomark _)))))))))), ?_⟩
  refine q_dropD (ed_call (ea_d (ed_var rfl hy) (ea_d (ed_var rfl hz) ea_nil)) (pr_D ⟨m, M, N, rfl, hM, hN, rfl⟩)) fun H1 e1 => ?_
  have hx1 := fz_ex e1 hx
  rcases hcase with ⟨q, rfl, hq, hmv⟩ | ⟨rfl, hne⟩
  · refine q_when (b := false) (et_is (et_or (a := false) (et_not (a := true) (et_test (ev_isiT (ed_var rfl hx1) rfl))) fun _ => et_or (a := false) (et_is (et_test (ev_niU (ev_lenT (ed_var rfl hx1)) (eu_tup (Evl.ea_cons ev_c (Evl.ea_cons (ev_op ev_c ev_c rv_I0) Evl.ea_nil)) (show 2 ≤ 100000 by decide)) rfl rfl)) rfl) fun _ => et_not (a := true) (et_test (ev_isiS (ev_strD (ed_ixT (i := 0) (ed_var rfl hx1) ev_c rfl)) rfl))) rfl) (fun z => nomatch z) fun _ H2 e2 => ?_
    have hx2 := fz_ex e2 hx1
    refine q_when (b := true) (et_is (et_test (ev_op (ev_lenT (ed_var rfl hx2)) ev_c (rv_eq rfl))) rfl) (fun _ H3 e3 => ?_) (fun z => nomatch z)
    have hx3 := fz_ex e3 hx2
    have e13 := (e1.trans e2).trans e3
    refine s_ret (ev_is (ev_andV (ev_op (ev_strD (ed_ixT (i := 0) (ed_var rfl hx3) ev_c rfl)) ev_c (rv_eq rfl)) fun _ => ev_andV (ev_bool (ed_call (ea_v (ev_is (ev_lenT (ed_var rfl (fz_ex e13 hy))) (w := .int (m : Int)) (by rw [List.length_map, hM.len])) (ea_d (ed_ixT (i := 1) (ed_var rfl hx3) ev_c rfl) ea_nil)) (pr_D ⟨m, q, rfl, hm, hq, rfl⟩))) fun _ => ev_eqD (ed_call (ea_d (ed_var rfl (fz_ex e13 hy)) (ea_d (ed_ixT (i := 1) (ed_var rfl hx3) ev_c rfl) ea_nil)) (pr_D ⟨m, M, q, rfl, hM.sq, hm, hq, rfl⟩)) (ed_var rfl (fz_ex e13 hz)) (Plain.of (tNN_plain _)) (Plain.of (tNN_plain _))) (w := .bl true) ?_) fun H4 e4 => k _ H4 (e13.trans e4) fz_bl
    rw [hmv, eqv_yes (tNN_plain _).1]
    rfl
  · refine q_when (b := false) (et_is (et_or (a := false) (et_not (a := true) (et_test (ev_isiT (ed_var rfl hx1) rfl))) fun _ => et_or (a := false) (et_is (et_test (ev_niU (ev_lenT (ed_var rfl hx1)) (eu_tup (Evl.ea_cons ev_c (Evl.ea_cons (ev_op ev_c ev_c rv_I0) Evl.ea_nil)) (show 2 ≤ 100000 by decide)) rfl rfl)) rfl) fun _ => et_not (a := true) (et_test (ev_isiS (ev_strD (ed_ixT (i := 0) (ed_var rfl hx1) ev_c rfl)) rfl))) rfl) (fun z => nomatch z) fun _ H2 e2 => ?_
    have hx2 := fz_ex e2 hx1
    refine q_when (b := false) (et_is (et_test (ev_op (ev_lenT (ed_var rfl hx2)) ev_c (rv_eq rfl))) rfl) (fun z => nomatch z) fun _ H3 e3 => ?_
    have hx3 := fz_ex e3 hx2
    have e13 := (e1.trans e2).trans e3
    refine q_when (b := false) (et_is (et_or (a := false) (et_is (et_test (ev_op (ev_strD (ed_ixT (i := 0) (ed_var rfl hx3) ev_c rfl)) ev_c (rv_ne rfl))) rfl) fun _ => et_or (a := false) (et_not (a := true) (et_test (ev_bool (ed_call (ea_d (ed_ixT (i := 1) (ed_var rfl hx3) ev_c rfl) ea_nil) (pr_D ⟨m, _, rfl, least_pic hM, rfl⟩))))) fun _ => et_or (a := false) (et_not (a := true) (et_test (ev_bool (ed_call (ea_d (ed_ixT (i := 2) (ed_var rfl hx3) ev_c rfl) ea_nil) (pr_D ⟨m, _, rfl, least_pic hN, rfl⟩))))) fun _ => et_is (et_test (ev_eqD (ed_ixT (i := 1) (ed_var rfl hx3) ev_c rfl) (ed_ixT (i := 2) (ed_var rfl hx3) ev_c rfl) (Plain.of (tNN_plain _)) (Plain.of (tNN_plain _)))) (eqv_no (tNN_plain _).1 (tNN_plain _).1 fun h => hne (tNN_inj h))) rfl) (fun z => nomatch z) fun _ H4 e4 => ?_
    have hx4 := fz_ex e4 hx3
    have e14 := e13.trans e4
    refine s_ret (ev_is (ev_andV (ev_eqD (ed_ixT (i := 1) (ed_var rfl hx4) ev_c rfl) (ed_ixT (i := 0) (ed_call (ea_d (ed_var rfl (fz_ex e14 hy)) ea_nil) (pr_D ⟨m, M, rfl, hM, rfl⟩)) ev_c rfl) (Plain.of (tNN_plain _)) (Plain.of (tNN_plain _))) fun _ => ev_eqD (ed_ixT (i := 2) (ed_var rfl hx4) ev_c rfl) (ed_ixT (i := 0) (ed_call (ea_d (ed_var rfl (fz_ex e14 hz)) ea_nil) (pr_D ⟨m, N, rfl, hN, rfl⟩)) ev_c rfl) (Plain.of (tNN_plain _)) (Plain.of (tNN_plain _))) (w := .bl true) ?_) fun H5 e5 => k _ H5 (e14.trans e5) fz_bl
    rw [eqv_yes (tNN_plain _).1, eqv_yes (tNN_plain _).1]
    rfl
end
end WT
/-! The law's own helpers, and the law. -/
namespace WT
open PySem PySem.Spec PyProof.Rows L2 Evl
abbrev s_law_every : Stmt := top 31
abbrev N_law_every : List Str := ["many", "found", "lap", "longer", "row", "to"]
theorem sc_law_every : FnScope N_law_every ["many"] (defScope s_law_every) := ⟨rfl, rfl, rfl, by decide +kernel, rfl, by decide +kernel, by decide +kernel⟩
abbrev s_law_is_right : Stmt := top 32
abbrev N_law_is_right : List Str := ["one", "other", "every", "due", "told", "position"]
theorem sc_law_is_right : FnScope N_law_is_right ["one", "other"] (defScope s_law_is_right) := ⟨rfl, rfl, rfl, by decide +kernel, rfl, by decide +kernel, by decide +kernel⟩
abbrev s_law_right : Stmt := top 34
abbrev N_law_right : List Str := ["pot", "lap", "picture", "moved", "others", "other"]
theorem sc_law_right : FnScope N_law_right ["pot"] (defScope s_law_right) := ⟨rfl, rfl, rfl, by decide +kernel, rfl, by decide +kernel, by decide +kernel⟩
abbrev s_law : Stmt := top 35
abbrev N_law : List Str := ["script", "at"]
theorem sc_law : FnScope N_law ["script"] (defScope s_law) := ⟨rfl, rfl, rfl, by decide +kernel, rfl, by decide +kernel, by decide +kernel⟩
/-! ### how long repr is -/
theorem int_short {n : Nat} (h : n ≤ 9) : PyData.intsShort 13 (.int (n : Int)) = true := by
  simp only [PyData.intsShort]
  exact decide_eq_true (PyData.shown_int_le (i := (n : Int)) (by omega))
theorem int_weight {n : Nat} (h : n ≤ 9) : PyData.weight (.int (n : Int)) ≤ 4 := by
  simp only [PyData.weight]
  split
  · exact Nat.zero_le _
  · rename_i z
    have : ((n : Int).natAbs).log2 < 4 := by
      have hn : n ≠ 0 := fun y => z (by subst y; rfl)
      rw [show (n : Int).natAbs = n from rfl, Nat.log2_lt hn]
      omega
    omega
theorem row_small : ∀ {r : List Nat}, (∀ x ∈ r, x ≤ 9) → PyData.intsShortAll 13 (rNs r) = true ∧ PyData.weightAll (rNs r) ≤ 5 * r.length ∧ PyData.showableAll (rNs r) = true
  | [], _ => ⟨rfl, Nat.le_refl _, rfl⟩
  | n :: r, h => by
    obtain ⟨h1, h2, h3⟩ := row_small (r := r) fun x hx => h x (List.mem_cons_of_mem _ hx)
    have hn := h n List.mem_cons_self
    have h4 := int_weight hn
    have e : rNs (n :: r) = .int (n : Int) :: rNs r := rfl
    rw [e]
    simp only [PyData.intsShortAll, PyData.weightAll, PyData.showableAll, int_short hn, h1, h3, List.length_cons, PyData.showable, Bool.and_true, Bool.true_and, decide_eq_true_eq, true_and]
    refine ⟨by omega, ?_⟩
    by_cases z : n = 0
    · subst z
      decide
    · have : ((n : Int).natAbs).log2 < 4 := by
        rw [show (n : Int).natAbs = n from rfl, Nat.log2_lt z]
        omega
      omega
theorem tN_e (r : List Nat) : tN r = .tuple (rNs r) := rfl
theorem rows_small : ∀ {F : List (List Nat)} {k : Nat}, (∀ r ∈ F, r.length = k ∧ ∀ x ∈ r, x ≤ 9) → PyData.intsShortAll 13 (F.map tN) = true ∧ PyData.weightAll (F.map tN) ≤ (5 * k + 1) * F.length ∧ PyData.showableAll (F.map tN) = true
  | [], _, _ => ⟨rfl, Nat.le_refl _, rfl⟩
  | r :: F, k, h => by
    obtain ⟨h1, h2, h3⟩ := rows_small (F := F) (k := k) fun x hx => h x (List.mem_cons_of_mem _ hx)
    obtain ⟨hl, hx⟩ := h r List.mem_cons_self
    obtain ⟨r1, r2, r3⟩ := row_small hx
    rw [List.map_cons, tN_e]
    simp only [PyData.intsShortAll, PyData.weightAll, PyData.showableAll, PyData.intsShort, PyData.weight, PyData.showable, r1, r3, h1, h3, List.length_cons, Bool.and_true, true_and, and_true]
    rw [Nat.mul_succ]
    rw [hl] at r2
    omega
theorem pic_small {k : Nat} {M : List (List Nat)} (h : Pic k M) : PyData.intsShort 13 (tNN M) = true ∧ PyData.weight (tNN M) ≤ 130 ∧ PyData.showable (tNN M) = true := by
  obtain ⟨h1, h2, h3⟩ := rows_small (F := M) (k := k) fun r hr => ⟨h.row r hr, fun x hx => Nat.le_trans (h.mark r hr x hx) (by decide)⟩
  unfold tNN
  simp only [PyData.intsShort, PyData.weight, PyData.showable]
  refine ⟨h1, ?_, h3⟩
  rw [h.len] at h2
  have hk := h.le
  have : (5 * k + 1) * k ≤ (5 * 5 + 1) * 5 := Nat.mul_le_mul (by omega) hk
  omega
theorem told_shown {k : Nat} {A B : List (List Nat)} (hA : Pic k A) (hB : Pic k B) : (PyData.tuple [.str "least", tNN A, tNN B]).showable = true ∧ (PyData.tuple [.str "least", tNN A, tNN B]).depth ≤ 50 ∧ (PyData.tuple [.str "least", tNN A, tNN B]).shown.length ≤ sizeLine := by
  obtain ⟨a1, a2, a3⟩ := pic_small hA
  obtain ⟨b1, b2, b3⟩ := pic_small hB
  have hd : (PyData.tuple [.str "least", tNN A, tNN B]).depth ≤ 3 := by
    have ha := (tNN_plain A).2
    have hb := (tNN_plain B).2
    simp only [PyData.depth, PyData.depthAll]
    omega
  refine ⟨by simp only [PyData.showable, PyData.showableAll, a3, b3, Bool.and_true], by omega, ?_⟩
  refine PyData.shown_fits_of_layable0 (B := 13) (by decide) (by decide) ?_ ?_
  · unfold PyData.layable0
    rw [decide_eq_true (show PyData.depth _ ≤ 64 by omega)]
    have hw : PyData.weight (.tuple [.str "least", tNN A, tNN B]) ≤ 2 ^ 20 := by
      simp only [PyData.weight, PyData.weightAll]
      have : ("least" : Str).cps.size = 5 := by decide
      omega
    rw [decide_eq_true hw]
    have hp := plain_lay (.tuple [.str "least", tNN A, tNN B]) (by simp only [plain, plainL, (tNN_plain A).1, (tNN_plain B).1]; decide +kernel)
    rw [hp]
    rfl
  · simp only [PyData.intsShort, PyData.intsShortAll, a1, b1, Bool.and_true]
/-! ### all orders -/
def everyN (k : Nat) : Nat → List (List Nat)
  | 0 => [[]]
  | t + 1 => (everyN k t).flatMap fun o => (rest k o).map fun x => o ++ [x]
theorem mem_every {k : Nat} : ∀ {t : Nat} {o : List Nat}, o ∈ everyN k t ↔ Ord k t o
  | 0, o => by
    unfold everyN
    rw [List.mem_singleton]
    exact ⟨fun h => by rw [h]; exact ⟨rfl, List.nodup_nil, fun x hx => by cases hx⟩, fun h => List.eq_nil_of_length_eq_zero h.len⟩
  | t + 1, o => by
    unfold everyN
    rw [List.mem_flatMap]
    constructor
    · rintro ⟨o1, ho1, h⟩
      obtain ⟨x, hx, rfl⟩ := List.mem_map.mp h
      obtain ⟨hxk, hxo⟩ := mem_rest.mp hx
      have O := mem_every.mp ho1
      refine ⟨by simp [O.len], ?_, fun y hy => ?_⟩
      · rw [List.nodup_append]
        exact ⟨O.nd, by simp, fun a ha b hb => by rw [List.mem_singleton.mp hb]; exact fun z => hxo (z ▸ ha)⟩
      · rcases List.mem_append.mp hy with z | z
        · exact O.lt y z
        · rw [List.mem_singleton.mp z]
          exact hxk
    · intro O
      have hne : o ≠ [] := fun z => by
        have := O.len
        rw [z] at this
        simp at this
      have e := List.dropLast_concat_getLast hne
      have nd := O.nd
      rw [← e, List.nodup_append] at nd
      refine ⟨o.dropLast, mem_every.mpr ⟨by rw [List.length_dropLast, O.len]; rfl, nd.1, fun y hy => O.lt y ((List.dropLast_prefix o).subset hy)⟩, List.mem_map.mpr ⟨o.getLast hne, mem_rest.mpr ⟨O.lt _ (List.getLast_mem hne), fun z => nd.2.2 _ z _ (List.mem_singleton.mpr rfl) rfl⟩, e⟩⟩
theorem every_len {k : Nat} (hk : k ≤ 5) : ∀ t, (everyN k t).length ≤ 5 ^ t
  | 0 => Nat.le_refl _
  | t + 1 => by
    have h1 := every_len hk t
    have h2 : (everyN k (t + 1)).length ≤ (everyN k t).length * 5 := by
      show ((everyN k t).flatMap fun o => (rest k o).map fun x => o ++ [x]).length ≤ _
      refine snoc_ind (P := fun os : List (List Nat) => (os.flatMap fun o => (rest k o).map fun x => o ++ [x]).length ≤ os.length * 5) (Nat.le_refl _) (fun os o ih => ?_) (everyN k t)
      rw [List.flatMap_append, List.length_append, List.length_append]
      have h3 := rest_len k o
      simp at ih ⊢
      omega
    rw [Nat.pow_succ]
    omega
def rBool2 (as : List Ag) (d : PyData) : Prop := ∃ a b : Bool, as = [.v (.bl a), .v (.bl b)] ∧ d = .bool (decide (V.bl a = V.bl b))
/-- a new list of all orders -/
def spEvery (K : PySem.W.Frag) : Sp := fun vs H Q _ => ∃ m : Nat, vs = [.int (m : Int)] ∧ m ≤ 5 ∧ ∀ p xs H', H p = none → Ex H H' → H' p = some (.lst xs) → FzL K H' ((everyN m m).map tN) xs → Q (.ref p) H'
def rIsRight (as : List Ag) (d : PyData) : Prop := ∃ (k j : Nat) (M N : List (List Nat)), as = [.d (tNN M), .d (tNN N)] ∧ Pic k M ∧ Pic j N ∧ d = .bool true
def spRight (K : PySem.W.Frag) : Sp := fun vs H Q _ => ∃ p : Addr, vs = [.ref p] ∧ PotAt H p 0 ∧ ∀ H', But p H H' → Q (.bl true) H'
def spCells (K : PySem.W.Frag) : Sp := fun vs H Q _ => ∃ (a : Addr) (xs : List V), vs = [.ref a, .int 3] ∧ SqL K H a xs ∧ xs.length ≤ 100 ∧ ∀ (n : Nat) p H', n ≤ 3 → H p = none → Ex H H' → H' p = some (.lst (vN (List.range n))) → Q (.ref p) H'
def spLaw (K : PySem.W.Frag) : Sp := fun vs H Q _ => ∃ (a : Addr) (ns : List Int), vs = [.ref a] ∧ SqL K H a (ns.map V.int) ∧ ns.length ≤ 63 ∧ ∀ H', Q (.bl true) H'
section
variable {P : Program} {w : World} {K : PySem.W.Frag} {mg : Str → Option Value} {base : Heap}
theorem ok_cells (B : Bt mg) (d : DefIn K mg "_law_cells" ["script", "most"] s_law_cells) : Okd P w K mg base "_law_cells" ["script", "most"] s_law_cells 1 (spCells K) := by
  refine Okd.mk d sc_law_cells (fun vs H Q E h => ?_) (fun f cdv A outer s H vs Q E hr h => ?_)
  · obtain ⟨a, xs, rfl, _⟩ := h
    rfl
  · obtain ⟨a, xs, rfl, hS, hl, k⟩ := h
    refine ⟨_, (pss_one (ps_ret (pe_listRg rfl (by rfl) B.list (prg_1 (by rfl) B.range (pe_callB (call_max2 rfl) (by rfl) B.max boot_max (pa_cons pe_int (pa_cons (pe_callB (call_min2 rfl) (by rfl) B.min boot_min (pa_cons (pv 1) (pa_cons (pe_callB call_len_seq (by rfl) B.len boot_len (pa_cons (pv 0) pa_nil)) pa_nil))) pa_nil))))))), ?_⟩
    refine s_retE (K := K) (ev_listRg (n := max 1 (min 3 xs.length)) (ev_is (ev_max2 ev_c (ev_min2 (ev_var rfl) (ev_len (ev_var rfl) hS))) ?_) (by omega)) fun p ys H1 hp e1 h1 f1 => k (max 1 (min 3 xs.length)) p H1 (by omega) hp e1 (by rw [h1, fzl_nats.mp f1])
    congr 1
    split <;> split <;> omega
theorem ok_bool2 (B : Bt mg) (d : DefIn K mg "_law_is_bool" ["told", "due"] s_law_is_bool) : Okd P w K mg base "_law_is_bool" ["told", "due"] s_law_is_bool 1 (spD K 2 rBool2) := by
  refine Okd.mk d sc_law_is_bool (fun vs H Q E h => spD_len h) (fun f cdv A outer s H vs Q E hr h => ?_)
  obtain ⟨as, d, _, hv, ⟨a, b, rfl, rfl⟩, k⟩ := h
  obtain ⟨_, _, rfl, rfl, rfl⟩ := agl2 hv
  refine ⟨_, (pss_one (ps_ret (pe_and (pe_callB call_isi (by rfl) B.isinstance boot_isinstance (pa_cons (pv 0) (pa_cons (pe_bltn (v := V.ty "bool") (u := Value.type "bool") (by rfl) B.bool boot_bool rfl) pa_nil))) (pe_one (pe_cmpR op_eq (pv 0) (pv 1) (nomark _)))))), ?_⟩
  exact s_ret (ev_is (ev_andV (ev_isiB (ev_var rfl) rfl) fun _ => ev_op (ev_var rfl) (ev_var rfl) (rv_eq rfl)) (by rw [Bool.true_and])) fun H1 e1 => k _ H1 e1 fz_bl
theorem ok_every (B : Bt mg) (d : DefIn K mg "_law_every" ["many"] s_law_every) : Okd P w K mg base "_law_every" ["many"] s_law_every 1 (spEvery K) := by
  refine Okd.mk d sc_law_every (fun vs H Q E h => ?_) (fun f cdv A outer s H vs Q E hr h => ?_)
  · obtain ⟨m, rfl, _⟩ := h
    rfl
  · obtain ⟨m, rfl, hm, k⟩ := h
    refine ⟨_, (pss_cons (ps_set (i := 1) sc_law_every.nd rfl (Or.inl rfl) (pe_lst (pa_cons (pe_tup pa_nil) pa_nil)))
      (pss_cons (ps_for PassesOwn.never rfl (pi_range1 (by rfl) B.range (pa_cons (pv 0) pa_nil)) (pg_name (i := 2) sc_law_every.nd rfl (Or.inl rfl)) (pss_cons (ps_set (i := 3) sc_law_every.nd rfl (Or.inl rfl) (pe_lst pa_nil))
        (pss_cons (ps_for PassesOwn.never rfl (pi_list (pv 1)) (pg_name (i := 4) sc_law_every.nd rfl (Or.inr rfl)) (pss_one (ps_expr (pe_bm PySem.F.plainAttrs_list PySem.F.slot_list_extend PySem.F.type_list_extend mt_extend (pv 3) (pa_cons (pe_lc (own := [("to", 5)]) rfl sc_law_every.nd (pi_range1 (by rfl) B.range (pa_cons (pv 0) pa_nil)) (blkOk_by (own := [("to", 5)]) (N := N_law_every) (sc := defScope s_law_every) (by decide +kernel)) (fun _ _ _ _ _ => pg_name (i := 5) sc_law_every.nd rfl (Or.inl rfl)) (fun _ _ _ _ _ => (pts_one (pt_cmpR (oK (K := K) (r := (fun K => rIn K true)) op_notIn_seq rfl) (pv 5) (pv 4) (by rfl)))) (fun _ _ _ _ _ => (pe_op (oK (K := K) (r := rCatA) op_catA rfl) (pv 4) (pe_tup (pa_cons (pv 5) pa_nil))))) pa_nil)))))
        (pss_one (ps_set (i := 1) sc_law_every.nd rfl (Or.inl rfl) (pv 3))))))
      (pss_one (ps_ret (pv 1))))), ?_⟩
    refine q_asgE (K := K) (ds := [tN []]) (WT.el_lst (ea_d (ed_tup (ds := []) ea_nil (by decide)) ea_nil) (by decide)) fun p0 xs0 H1 hp0 e1 h1 f1 => ?_
    refine q_forR1 (n := (m : Int)) (Evl.ea_cons (ev_var rfl) Evl.ea_nil) ⟨by omega, by omega⟩ (fun t σ' H' => ∃ pf xs z2 z3 z4 z5, σ' = [some (.int (m : Int)), some (.ref pf), z2, z3, z4, z5] ∧ H pf = none ∧ Ex H H' ∧ H' pf = some (.lst xs) ∧ FzL K H' ((everyN m t).map tN) xs) (fun H2 e2 => ?_) (fun t σ' H' ht h => ?_) (fun σ' H' h => ?_)
    · exact ⟨p0, xs0, none, none, none, none, rfl, hp0, e1.trans e2, e2 _ _ h1, fzl_ex e2 f1⟩
    · obtain ⟨pf, xs, z2, z3, z4, z5, rfl, hpf, eX, hx, fx⟩ := h
      have htm : t < m := by omega
      have lsz := every_len hm t
      have psz := pow5 (t := t) (by omega)
      have hxl := fzl_len fx
      rw [List.length_map] at hxl
      refine q_asgL (Evl.el_lst Evl.ea_nil (by decide)) fun la H2 hla e2 h2 => ?_
      refine q_forL (ev_var rfl) (sq_of (e2 _ _ hx)) (fun i σ2 H3 => ∃ ls z4 z5, σ2 = [some (.int (m : Int)), some (.ref pf), some (.int (t : Int)), some (.ref la), z4, z5] ∧ Ex H' H3 ∧ H3 la = some (.lst ls) ∧ FzL K H3 ((((everyN m t).take i).flatMap fun o => (rest m o).map fun x => o ++ [x]).map tN) ls) (fun H3 e3 => ?_) (fun i σ2 H3 _ h => ?_) (fun i x σ2 H3 hxi h => ?_) (fun σ2 H3 h => ?_)
      · exact ⟨[], z4, z5, rfl, e2.trans e3, e3 _ _ h2, fzl_nil⟩
      · obtain ⟨ls, z4, z5, _, eX3, _⟩ := h
        exact sq_of (eX3 _ _ hx)
      · obtain ⟨ls, z4, z5, rfl, eX3, hls, fl⟩ := h
        obtain ⟨d, hd, fo⟩ := fzl_getV fx hxi
        obtain ⟨o, ho, rfl⟩ := map_get hd
        have O := mem_every.mp (List.mem_of_getElem? ho)
        have hil := (List.getElem?_eq_some_iff.mp ho).1
        have tol : ∀ (n : Nat), decide ((n : Int) ∈ o.map fun n : Nat => (n : Int)) = decide (n ∈ o) := fun n => by
          rw [decide_eq_decide, List.mem_map]
          constructor
          · rintro ⟨a, ha, e⟩
            have : a = n := by omega
            exact this ▸ ha
          · exact fun h => ⟨n, h, rfl⟩
        have eo : tN o = .tuple ((o.map fun n : Nat => (n : Int)).map PyData.int) := by
          unfold tN
          rw [List.map_map]
          rfl
        have hbd : (((everyN m t).take i).flatMap fun o => (rest m o).map fun x => o ++ [x]).length ≤ i * 5 := by
          have h0 : ∀ os : List (List Nat), (os.flatMap fun o => (rest m o).map fun x => o ++ [x]).length ≤ os.length * 5 := fun os => by
            refine snoc_ind (P := fun os : List (List Nat) => (os.flatMap fun o => (rest m o).map fun x => o ++ [x]).length ≤ os.length * 5) (Nat.le_refl _) (fun os o ih => ?_) os
            rw [List.flatMap_append, List.length_append, List.length_append]
            have h3 := rest_len m o
            simp at ih ⊢
            omega
          refine Nat.le_trans (h0 _) ?_
          rw [List.length_take]
          omega
        have hrl := rest_len m o
        show tDrop _ _ [some (.int (m : Int)), some (.ref pf), some (.int (t : Int)), some (.ref la), some x, z5] H3
        refine s_extE (K := K) hls (ev_var rfl) (el_filtR (fun p => !decide (p ∈ o)) (fun p => tN (o ++ [p])) (Evl.ea_cons (ev_var rfl) Evl.ea_nil) (by omega) (fun _ => rfl) fun j H5 e5 hj => ⟨et_is (et_test (ev_inT (neg := true) (ev_var rfl) (eo ▸ ed_var rfl (fz_ex (eX3.trans e5) fo)))) (by rw [if_pos rfl, tol]), fun _ => ed_is (ed_catA (ds := o.map fun n : Nat => PyData.int (n : Int)) (es := [.int (j : Int)]) (ed_var rfl (fz_ex (eX3.trans e5) fo)) (ed_tup (ea_d (ed_ev (ev_var rfl) fz_int) ea_nil) (show 1 ≤ 100000 by decide)) ?_) ?_⟩) ?_ fun zs H4 e4 f4 => ?_
        · rw [List.length_map, O.len]
          show t + 1 ≤ 100000
          omega
        · unfold tN
          rw [List.map_append]
          rfl
        · rw [fzl_len fl, List.length_map, List.length_map]
          have : (List.filter (fun p => !decide (p ∈ o)) (List.range m)).length ≤ m := hrl
          omega
        · have tx := (tex_of e4).trans (tex_lst (o := .lst (ls ++ zs)) (e4 _ _ hls))
          refine ⟨_, _, _, rfl, (eX3.trans e4).mut hla, upd_same, ?_⟩
          rw [take_get ho, List.flatMap_append, List.map_append]
          refine fzl_append (FzL.mono tx _ _ fl) ?_
          have e6 : (([o] : List (List Nat)).flatMap fun o => (rest m o).map fun x => o ++ [x]).map tN = ((List.range m).filter fun p => !decide (p ∈ o)).map fun p => tN (o ++ [p]) := by
            simp [rest]
          rw [e6]
          exact FzL.mono (tex_lst (e4 _ _ hls)) _ _ f4
      · obtain ⟨ls, z4, z5, rfl, eX3, hls, fl⟩ := h
        rw [List.take_of_length_le (by omega)] at fl
        exact s_asg (ev_var rfl) fun H4 e4 => ⟨la, ls, _, _, _, _, rfl, fresh_back eX hla, (eX.trans eX3).trans e4, e4 _ _ hls, fzl_ex e4 fl⟩
    · obtain ⟨pf, xs, z2, z3, z4, z5, rfl, hpf, eX, hx, fx⟩ := h
      rw [Int.toNat_natCast] at fx
      exact s_ret (ev_var rfl) fun H2 e2 => k pf xs H2 hpf (eX.trans e2) (e2 _ _ hx) (fzl_ex e2 fx)
/-- keywords -/
def gK1 {α : Type} : List α → List α → List α
  | [a], [b] => [a, b]
  | _, _ => []
def gK2 {α : Type} : List α → List α → List α
  | [a, b], [c] => [a, b, c]
  | _, _ => []
theorem gK1_rel {vs zs : List V} {us ws : List Value} (h : Vals vs us) (k : Vals zs ws) : Vals (gK1 vs zs) (gK1 us ws) := by
  cases h with
  | nil => exact .nil
  | cons r h =>
    cases h with
    | nil =>
      cases k with
      | nil => exact .nil
      | cons r2 k =>
        cases k with
        | nil => exact .cons r (.cons r2 .nil)
        | cons _ _ => exact .nil
    | cons _ _ => exact .nil
theorem gK2_rel {vs zs : List V} {us ws : List Value} (h : Vals vs us) (k : Vals zs ws) : Vals (gK2 vs zs) (gK2 us ws) := by
  cases h with
  | nil => exact .nil
  | cons r h =>
    cases h with
    | nil => exact .nil
    | cons r1 h =>
      cases h with
      | nil =>
        cases k with
        | nil => exact .nil
        | cons r2 k =>
          cases k with
          | nil => exact .cons r (.cons r1 (.cons r2 .nil))
          | cons _ _ => exact .nil
      | cons _ _ => exact .nil
theorem kb_same_picture : ∀ (f : Addr) (fd : FuncData), Fun K "same_picture" "same_picture" s_same_picture f fd → KBinds K fd ["one", "other"] ["other"] gK1 gK1 := fun f fd F => kbOf F gK1_rel fun kV doc pm an cdv ct us ws hl => by
  unfold gK1 at hl ⊢
  split at hl
  · rfl
  · cases hl
theorem kb_shows_same_picture : ∀ (f : Addr) (fd : FuncData), Fun K "shows_same_picture" "shows_same_picture" s_shows_same_picture f fd → KBinds K fd ["one", "other", "value"] ["value"] gK2 gK2 := fun f fd F => kbOf F gK2_rel fun kV doc pm an cdv ct us ws hl => by
  unfold gK2 at hl ⊢
  split at hl
  · rfl
  · cases hl
theorem ed_callK1 {σ : L2.St} {H : Hp} {tr tk : TA} {sp : Sp} {E : XK} {a b : Ag} {d : PyData} (h : Ea K tr σ H [a]) (k : Ea K tk σ H [b]) (hs : Pr K sp [a, b] H d) : Ed K (tCallK sp gK1 E tr tk) σ H d := fun H1 e Q q =>
  h H1 e _ fun vs H2 e2 hv => k H2 (e.trans e2) _ fun zs H3 e3 hz => by
    obtain ⟨x, rfl, hx⟩ := agl1 hv
    obtain ⟨y, rfl, hy⟩ := agl1 hz
    exact hs H3 ((e.trans e2).trans e3) [x, y] ⟨x, [y], rfl, ago_ex e3 hx, y, [], rfl, hy, rfl⟩ Q (fun v H4 e4 f => q v H4 ((e2.trans e3).trans e4) f) E
theorem ed_callK2 {σ : L2.St} {H : Hp} {tr tk : TA} {sp : Sp} {E : XK} {a b c : Ag} {d : PyData} (h : Ea K tr σ H [a, b]) (k : Ea K tk σ H [c]) (hs : Pr K sp [a, b, c] H d) : Ed K (tCallK sp gK2 E tr tk) σ H d := fun H1 e Q q =>
  h H1 e _ fun vs H2 e2 hv => k H2 (e.trans e2) _ fun zs H3 e3 hz => by
    obtain ⟨x, y, rfl, hx, hy⟩ := agl2 hv
    obtain ⟨z, rfl, hz2⟩ := agl1 hz
    exact hs H3 ((e.trans e2).trans e3) [x, y, z] ⟨x, [y, z], rfl, ago_ex e3 hx, y, [z], rfl, ago_ex e3 hy, z, [], rfl, hz2, rfl⟩ Q (fun v H4 e4 f => q v H4 ((e2.trans e3).trans e4) f) E
theorem ev_neNil {σ : L2.St} {H : Hp} {ta : TE} {p : Addr} {xs : List V} {ds : List PyData} {n : Nat} (h : Ev ta σ H (.ref p)) (hp : SqL K H p xs) (f : FzL K H ds xs) (ps : ∀ d ∈ ds, plain d = true ∧ d.depth ≤ n) (hn : n ≤ 60) : Ev (tOp (rNeD K) ta (tLst tNil)) σ H (.bl (!ds.isEmpty)) := fun H1 e Q q =>
  h H1 e _ fun H2 e2 => Evl.el_lst Evl.ea_nil (by decide) H2 (Ex.refl _) _ fun l H3 hl e3 h3 => ⟨.list ds, .list [], fzl_dpl (ex_l ((e.trans e2).trans e3) hp) (fzl_ex ((e.trans e2).trans e3) f), fzl_dpl (ds := []) (sq_of h3) fzl_nil, shaped_list ps hn, shaped_list (n := 0) (fun d hd => by cases hd) (by decide), by
    have hq := q H3 (e2.trans e3)
    cases ds with
    | nil => simpa [PyData.eqv, PyData.eqvAll] using hq
    | cons d ds => simpa [PyData.eqv, PyData.eqvAll] using hq⟩
def untN : PyData → List Nat
  | .tuple ds => ds.map gNat
  | _ => []
theorem untN_tN (q : List Nat) : untN (tN q) = q := gNat_tN q
/-- two pictures have one code when one is moved to the other, and only then -/
theorem code_iff {k : Nat} {M N : List (List Nat)} (hM : Pic k M) (hN : Pic k N) : (laps k M k).1 = (laps k N k).1 ↔ ∃ q, Ord k k q ∧ movedN k M q = N := by
  constructor
  · intro h
    obtain ⟨o, os, hos, hoh, O, Co⟩ := orders_take (k := k) (M := M)
    obtain ⟨o', os', hos', hoh', O', Co'⟩ := orders_take (k := k) (M := N)
    have hz := zip_perm (ord_perm O) (ord_perm O')
    refine ⟨zipPos k o o', ⟨perm_len hz, perm_nd hz, fun x hx => List.mem_range.mp (hz.subset hx)⟩, zip_moves hN.sq O O' Co (h ▸ Co')⟩
  · rintro ⟨q, hq, rfl⟩
    exact (laps_moved (ord_perm hq) k (Nat.le_refl _)).1.symm
theorem samePos_ok {k : Nat} {M N : List (List Nat)} (hN : Pic k N) (h : (laps k M k).1 = (laps k N k).1) : (samePos k M N).Perm (List.range k) ∧ movedN k M (samePos k M N) = N := by
  obtain ⟨o, os, hos, hoh, O, Co⟩ := orders_take (k := k) (M := M)
  obtain ⟨o', os', hos', hoh', O', Co'⟩ := orders_take (k := k) (M := N)
  unfold samePos
  rw [hoh, hoh']
  exact ⟨zip_perm (ord_perm O) (ord_perm O'), zip_moves hN.sq O O' Co (h ▸ Co')⟩
theorem least_ne {k : Nat} {M N : List (List Nat)} (hM : Pic k M) (hN : Pic k N) (h : ¬ (laps k M k).1 = (laps k N k).1) : leastPic k M ≠ leastPic k N := fun e => by
  obtain ⟨r, hr, hm⟩ := moved_back hN.sq (least_ok k M).2 (least_ok k N).2 e
  exact h ((code_iff hM hN).mpr ⟨r, ⟨perm_len hr, perm_nd hr, fun x hx => List.mem_range.mp (hr.subset hx)⟩, hm⟩)
theorem ok_isright (B : Bt mg) (o_law_every : Okd P w K mg base "_law_every" ["many"] s_law_every 1 (spEvery K)) (o_law_moved : Okd P w K mg base "_law_moved" ["picture", "position"] s_law_moved 1 (spD K 2 rMoved))
    (o_law_is_bool : Okd P w K mg base "_law_is_bool" ["told", "due"] s_law_is_bool 1 (spD K 2 rBool2)) (o_same_picture : Okd P w K mg base "same_picture" ["one", "other"] s_same_picture 5 (spD K 2 rSame))
    (o_shows_same_picture : Okd P w K mg base "shows_same_picture" ["one", "other", "value"] s_shows_same_picture 5 (spD K 3 rShows)) (o_least_picture : Okd P w K mg base "least_picture" ["picture"] s_least_picture 4 (spD K 1 rLeast))
    (d : DefIn K mg "_law_is_right" ["one", "other"] s_law_is_right) : Okg P w K mg base "_law_is_right" ["one", "other"] s_law_is_right 6 (spD K 2 rIsRight) := by
  refine Okg.mk d sc_law_is_right (fun vs H Q E h => spD_len h) (fun f cdv A outer s H vs Q E hgd hr h => ?_)
  obtain ⟨as, d, _, hv, ⟨m, j, M, N, rfl, hM, hN, rfl⟩, k⟩ := h
  obtain ⟨y, z, rfl, hy, hz⟩ := agl2 hv
  replace hy := agd hy
  replace hz := agd hz
  have hm := hM.le
  refine ⟨_, (pss_cons (ps_if (pt_cmpR op_ne (pe_callB call_len_seq (by rfl) B.len boot_len (pa_cons (pv 0) pa_nil)) (pe_callB call_len_seq (by rfl) B.len boot_len (pa_cons (pv 1) pa_nil)) (nomark _)) (pss_one (ps_ret pe_bl)) pss_nil)
      (pss_cons (ps_set (i := 2) sc_law_is_right.nd rfl (Or.inl rfl) (pe_fn o_law_every (hr.mono (by decide)) (pa_cons (pe_callB call_len_seq (by rfl) B.len boot_len (pa_cons (pv 0) pa_nil)) pa_nil)))
      (pss_cons (ps_setLc (i := 3) (own := [("position", 5)]) rfl sc_law_is_right.nd rfl rfl (sw_true rfl rfl rfl (by decide +kernel)) (pi_list (pv 2)) (blkOk_by (own := [("position", 5)]) (N := N_law_is_right) (sc := defScope s_law_is_right) (by decide +kernel)) (fun _ _ _ _ _ => pg_name (i := 5) sc_law_is_right.nd rfl (Or.inl rfl)) (fun _ _ _ _ _ => (pts_one (pt_cmpR (oK (K := K) (r := rEqD) (op_eqD (room64 hr)) rfl) (pe_fn o_law_moved (hr.mono (by decide)) (pa_cons (pv 0) (pa_cons (pv 5) pa_nil))) (pv 1) (nomark _)))) (fun _ _ _ _ _ => (pv 5)))
      (pss_cons (ps_set (i := 4) sc_law_is_right.nd rfl (Or.inl rfl) (pe_fnK o_same_picture (hr.mono (by decide)) kb_same_picture (pa_cons (pv 0) pa_nil) (pk_cons (pv 1) pk_nil)))
      (pss_cons (ps_if (pt_not (pt_val (pe_fn o_law_is_bool (hr.mono (by decide)) (pa_cons (pe_fnK o_shows_same_picture (hr.mono (by decide)) kb_shows_same_picture (pa_cons (pv 0) (pa_cons (pv 1) pa_nil)) (pk_cons (pv 4) pk_nil)) (pa_cons pe_bl pa_nil))))) (pss_one (ps_ret pe_bl)) pss_nil)
      (pss_cons (ps_if (pt_cmpR (op_neD (room64 hr)) (pv 3) (pe_lst pa_nil) (nomark _)) (pss_cons (ps_if (PW.pt (pw_or (pt_cmpR op_ne (pe_callB call_len_seq (by rfl) B.len boot_len (pa_cons (pv 4) pa_nil)) pe_int (nomark _)) (pw_or (pt_cmpR op_ne (pe_ix ix_tup (pv 4) pe_int (fun _ _ => rfl)) pe_str (nomark _)) (pw_or1 (pt_cmpR (op_notInD (room65 hr)) (pe_ix ix_tup (pv 4) pe_int (fun _ _ => rfl)) (pv 3) (by rfl)))))) (pss_one (ps_ret pe_bl)) pss_nil)
        (pss_one (ps_ret (pe_cmpR op_eq (pe_ix ix_tup (pe_fn o_same_picture (hr.mono (by decide)) (pa_cons (pv 1) (pa_cons (pv 0) pa_nil))) pe_int (fun _ _ => rfl)) pe_str (nomark _))))) pss_nil)
      (pss_one (ps_ret (pe_and (pe_cmpR op_eq (pe_callB (call_reprD hgd (room64 hr)) (by rfl) B.repr boot_repr (pa_cons (pv 4) pa_nil)) (pe_callB (call_reprD hgd (room64 hr)) (by rfl) B.repr boot_repr (pa_cons (pe_tup (pa_cons pe_str (pa_cons (pe_ix ix_tup (pe_fn o_least_picture (hr.mono (by decide)) (pa_cons (pv 0) pa_nil)) pe_int (fun _ _ => rfl)) (pa_cons (pe_ix ix_tup (pe_fn o_least_picture (hr.mono (by decide)) (pa_cons (pv 1) pa_nil)) pe_int (fun _ _ => rfl)) pa_nil)))) pa_nil)) (nomark _)) (pe_one (pe_cmpR (op_neD (room64 hr)) (pe_ix ix_tup (pv 4) pe_int (fun _ _ => rfl)) (pe_ix ix_tup (pv 4) pe_int (fun _ _ => rfl)) (nomark _)))))))))))), ?_⟩
  have hlM : ∀ {σ : L2.St} {H1 : Hp}, Ex H H1 → σ[0]? = some (some y) → Ev (tCB (rLenS K) (tCons (tVar 0) tNil)) σ H1 (.int (m : Int)) := fun e h0 => ev_is (ev_lenT (ed_var h0 (fz_ex e hy))) (by rw [List.length_map, hM.len])
  have hlN : ∀ {σ : L2.St} {H1 : Hp}, Ex H H1 → σ[1]? = some (some z) → Ev (tCB (rLenS K) (tCons (tVar 1) tNil)) σ H1 (.int (j : Int)) := fun e h0 => ev_is (ev_lenT (ed_var h0 (fz_ex e hz))) (by rw [List.length_map, hN.len])
  refine q_when (b := !decide (V.int (m : Int) = V.int (j : Int))) (et_test (ev_op (hlM (Ex.refl _) rfl) (hlN (Ex.refl _) rfl) (rv_ne rfl))) (fun _ H1 e1 => s_ret ev_c fun H2 e2 => k _ H2 (e1.trans e2) fz_bl) fun hb H1 e1 => ?_
  have hmj : m = j := by
    have h1 : V.int (m : Int) = V.int (j : Int) := Classical.byContradiction fun h => by
      rw [decide_eq_false h] at hb
      cases hb
    injection h1 with h2
    omega
  subst hmj
  have h5 := pow5 hm
  have hel := every_len hm m
  refine q_asgM (c_call (Evl.ea_cons (hlM e1 rfl) Evl.ea_nil H1 (Ex.refl _) _ fun H2 e2 => ⟨m, rfl, hm, fun pe xe H3 hpe e3 he fe => ?_⟩))
  have e13 := (e1.trans e2).trans e3
  -- due
  refine q_asgE (K := K) (el_filtL (fun d => decide (movedN m M (untN d) = N)) id (ev_var rfl) (sq_of he) fe (by rw [List.length_map]; omega) (fun _ => rfl) fun i x d H4 e4 hd f => ?_) fun pd xd H4 hpd e4 hd4 fd => ?_
  · obtain ⟨q, hq, rfl⟩ := map_get hd
    have O := mem_every.mp (List.mem_of_getElem? hq)
    refine ⟨et_is (et_test (ev_eqD (ed_call (ea_d (ed_var rfl (fz_ex (e13.trans e4) hy)) (ea_d (ed_var rfl f) ea_nil)) (pr_D ⟨m, M, q, rfl, hM.sq, hm, ord_perm O, rfl⟩)) (ed_var rfl (fz_ex (e13.trans e4) hz)) (Plain.of (tNN_plain _)) (Plain.of (tNN_plain _)))) ?_, fun _ => ed_var rfl f⟩
    rw [untN_tN, Bool.eq_iff_iff, eqv_iff _ _ (tNN_plain _).1 (tNN_plain _).1, decide_eq_true_eq]
    exact ⟨fun h => tNN_inj h, fun h => by rw [h]⟩
  · rw [List.map_id] at fd
    have hdue : ∀ d, d ∈ ((everyN m m).map tN).filter (fun d => decide (movedN m M (untN d) = N)) ↔ ∃ q, Ord m m q ∧ movedN m M q = N ∧ d = tN q := fun d => by
      rw [List.mem_filter, List.mem_map, decide_eq_true_eq]
      constructor
      · rintro ⟨⟨q, hq, rfl⟩, h⟩
        rw [untN_tN] at h
        exact ⟨q, mem_every.mp hq, h, rfl⟩
      · rintro ⟨q, hq, h, rfl⟩
        exact ⟨⟨q, mem_every.mpr hq, rfl⟩, by rw [untN_tN]; exact h⟩
    generalize ((everyN m m).map tN).filter (fun d => decide (movedN m M (untN d) = N)) = due at fd hdue
    have hdp : ∀ d ∈ due, plain d = true ∧ d.depth ≤ 1 := fun d hd => by
      obtain ⟨q, _, _, rfl⟩ := (hdue d).mp hd
      exact tN_plain q
    have e14 := e13.trans e4
    refine q_asgD (d := sameD m M N) (ed_callK1 (ea_d (ed_var rfl (fz_ex e14 hy)) ea_nil) (ea_d (ed_var rfl (fz_ex e14 hz)) ea_nil) (pr_D ⟨m, M, N, rfl, hM, hN, rfl⟩)) fun vt H5 e5 ft => ?_
    have e15 := e14.trans e5
    have hd5 := sq_of (K := K) (e5 _ _ hd4)
    have fd5 := fzl_ex e5 fd
    by_cases hc : (laps m M m).1 = (laps m N m).1
    · have hD : sameD m M N = .tuple [.str "position", tN (samePos m M N)] := if_pos hc
      have hD2 : sameD m N M = .tuple [.str "position", tN (samePos m N M)] := if_pos hc.symm
      obtain ⟨p1, p2⟩ := samePos_ok hN hc
      rw [hD] at ft
      have hmem : tN (samePos m M N) ∈ due := (hdue _).mpr ⟨_, ⟨perm_len p1, perm_nd p1, fun x hx => List.mem_range.mp (p1.subset hx)⟩, p2, rfl⟩
      refine q_when (b := false) (et_is (et_not (et_test (ev_bool (ed_call (ea_v (ev_bool (ed_callK2 (ea_d (ed_var rfl (fz_ex e15 hy)) (ea_d (ed_var rfl (fz_ex e15 hz)) ea_nil)) (ea_d (ed_var rfl ft) ea_nil) (pr_D ⟨m, M, N, _, rfl, hM, hN, .inl ⟨_, rfl, p1, p2⟩, rfl⟩))) (ea_v ev_c ea_nil)) (pr_D ⟨true, true, rfl, rfl⟩))))) (by decide)) (fun z => nomatch z) fun _ H6 e6 => ?_
      have hne : due.isEmpty = false := by
        cases due with
        | nil => cases hmem
        | cons _ _ => rfl
      refine q_when (b := true) (et_is (et_test (ev_neNil (ev_var rfl) (ex_l e6 hd5) (fzl_ex e6 fd5) hdp (by decide))) (by rw [hne]; rfl)) (fun _ H7 e7 => ?_) (fun z => nomatch z)
      have e57 := e6.trans e7
      have ft7 := fz_ex e57 ft
      refine q_when (b := false) (et_is (et_or (a := false) (et_is (et_test (ev_op (ev_lenT (ed_var rfl ft7)) ev_c (rv_ne rfl))) rfl) fun _ => et_or (a := false) (et_is (et_test (ev_op (ev_strD (ed_ixT (i := 0) (ed_var rfl ft7) ev_c rfl)) ev_c (rv_ne rfl))) rfl) fun _ => et_is (et_test (ev_notInLd (ed_ixT (i := 1) (ed_var rfl ft7) ev_c rfl) (ev_var rfl) (ex_l e57 hd5) (fzl_ex e57 fd5) (Plain.of (tN_plain _)) hdp (by decide))) (b := false) ?_) rfl) (fun z => nomatch z) fun _ H8 e8 => ?_
      · have : (due.any fun z => PyData.eqv z (tN (samePos m M N))) = true := List.any_eq_true.mpr ⟨_, hmem, eqv_yes (tN_plain _).1⟩
        rw [this]
        rfl
      · refine s_ret (ev_is (ev_op (ev_strD (ed_ixT (i := 0) (ed_is (ed_call (ea_d (ed_var rfl (fz_ex (e15.trans (e57.trans e8)) hz)) (ea_d (ed_var rfl (fz_ex (e15.trans (e57.trans e8)) hy)) ea_nil)) (pr_D ⟨m, N, M, rfl, hN, hM, rfl⟩)) hD2) ev_c rfl)) ev_c (rv_eq rfl)) (w := .bl true) ?_) fun H9 e9 => k _ H9 (e15.trans ((e57.trans e8).trans e9)) fz_bl
        rw [decide_eq_true rfl]
    · have hD : sameD m M N = .tuple [.str "least", tNN (leastPic m M), tNN (leastPic m N)] := if_neg hc
      have hln := least_ne hM hN hc
      rw [hD] at ft
      have hnil : due = [] := by
        cases hd : due with
        | nil => rfl
        | cons d ds =>
          obtain ⟨q, hq, hqm, _⟩ := (hdue d).mp (by rw [hd]; exact List.mem_cons_self)
          exact absurd ((code_iff hM hN).mpr ⟨q, hq, hqm⟩) hc
      refine q_when (b := false) (et_is (et_not (et_test (ev_bool (ed_call (ea_v (ev_bool (ed_callK2 (ea_d (ed_var rfl (fz_ex e15 hy)) (ea_d (ed_var rfl (fz_ex e15 hz)) ea_nil)) (ea_d (ed_var rfl ft) ea_nil) (pr_D ⟨m, M, N, _, rfl, hM, hN, .inr ⟨rfl, hln⟩, rfl⟩))) (ea_v ev_c ea_nil)) (pr_D ⟨true, true, rfl, rfl⟩))))) (by decide)) (fun z => nomatch z) fun _ H6 e6 => ?_
      refine q_when (b := false) (et_is (et_test (ev_neNil (ev_var rfl) (ex_l e6 hd5) (fzl_ex e6 fd5) hdp (by decide))) (by rw [hnil]; rfl)) (fun z => nomatch z) fun _ H7 e7 => ?_
      have e57 := e6.trans e7
      have ft7 := fz_ex e57 ft
      have e17 := e15.trans e57
      obtain ⟨s1, s2, s3⟩ := told_shown (least_pic hM) (least_pic hN)
      refine s_ret (ev_is (ev_andV (ev_op (ev_repr (ed_var rfl ft7) s1 s2 s3) (ev_repr (ed_tup (ds := [.str "least", tNN (leastPic m M), tNN (leastPic m N)]) (ea_d (ed_ev ev_c fz_str) (ea_d (ed_ixT (i := 0) (ed_call (ea_d (ed_var rfl (fz_ex e17 hy)) ea_nil) (pr_D ⟨m, M, rfl, hM, rfl⟩)) ev_c rfl) (ea_d (ed_ixT (i := 0) (ed_call (ea_d (ed_var rfl (fz_ex e17 hz)) ea_nil) (pr_D ⟨m, N, rfl, hN, rfl⟩)) ev_c rfl) ea_nil))) (show 3 ≤ 100000 by decide)) s1 s2 s3) (rv_eq rfl)) fun _ => ev_neD (ed_ixT (i := 1) (ed_var rfl ft7) ev_c rfl) (ed_ixT (i := 2) (ed_var rfl ft7) ev_c rfl) (Plain.of (tNN_plain _)) (Plain.of (tNN_plain _))) (w := .bl true) ?_) fun H8 e8 => k _ H8 (e17.trans e8) fz_bl
      rw [decide_eq_true rfl, eqv_no (tNN_plain _).1 (tNN_plain _).1 fun h => hln (tNN_inj h)]
      rfl
end
end WT
/-! The law. -/
namespace WT
open PySem PySem.Spec PyProof.Rows L2 Evl
section
variable {P : Program} {w : World} {K : PySem.W.Frag} {mg : Str → Option Value} {base : Heap}
theorem c_cb1 {σ : L2.St} {H : Hp} {te : TE} {Q : VK} {r : List V → Hp → VK → Prop} (h : tCB r (tCons te tNil) σ H Q) : te σ H (fun x H1 => tNil σ H1 fun xs H2 => r (x :: xs) H2 Q) := h
theorem c_lst {σ : L2.St} {H : Hp} {ta : TA} {Q : VK} (h : ta σ H fun vs H1 => vs.length ≤ sizeLine ∧ ∀ p, H1 p = none → Q (.ref p) (upd H1 p (.lst vs))) : tLst ta σ H Q := h
theorem ok_right (B : Bt mg) (o_law_picture_drawn : Okd P w K mg base "_law_picture_drawn" ["pot", "most"] s_law_picture_drawn 2 (spPic K)) (o_law_position_drawn : Okd P w K mg base "_law_position_drawn" ["pot", "many"] s_law_position_drawn 3 (spPosn K))
    (o_law_moved : Okd P w K mg base "_law_moved" ["picture", "position"] s_law_moved 1 (spD K 2 rMoved)) (o_law_near : Okd P w K mg base "_law_near" ["pot", "picture"] s_law_near 2 (spNear K)) (o_law_is_right : Okg P w K mg base "_law_is_right" ["one", "other"] s_law_is_right 6 (spD K 2 rIsRight))
    (d : DefIn K mg "_law_right" ["pot"] s_law_right) : Okg P w K mg base "_law_right" ["pot"] s_law_right 7 (spRight K) := by
  refine Okg.mk d sc_law_right (fun vs H Q E h => ?_) (fun f cdv A outer s H vs Q E hgd hr h => ?_)
  · obtain ⟨p, rfl, _⟩ := h
    rfl
  · obtain ⟨p, rfl, hP, k⟩ := h
    refine ⟨_, (pss_cons (ps_for PassesOwn.never rfl (pi_range1 (by rfl) B.range (pa_cons pe_int pa_nil)) (pg_name (i := 1) sc_law_right.nd rfl (Or.inl rfl)) (pss_cons (ps_set (i := 2) sc_law_right.nd rfl (Or.inr rfl) (pe_fn o_law_picture_drawn (hr.mono (by decide)) (pa_cons (pv 0) (pa_cons pe_int pa_nil))))
        (pss_cons (ps_set (i := 3) sc_law_right.nd rfl (Or.inl rfl) (pe_fn o_law_moved (hr.mono (by decide)) (pa_cons (pv 2) (pa_cons (pe_fn o_law_position_drawn (hr.mono (by decide)) (pa_cons (pv 0) (pa_cons (pe_callB call_len_seq (by rfl) B.len boot_len (pa_cons (pv 2) pa_nil)) pa_nil))) pa_nil))))
        (pss_cons (ps_set (i := 4) sc_law_right.nd rfl (Or.inl rfl) (pe_lst (pa_cons (pv 3) (pa_cons (pe_fn o_law_near (hr.mono (by decide)) (pa_cons (pv 0) (pa_cons (pv 3) pa_nil))) (pa_cons (pe_fn o_law_picture_drawn (hr.mono (by decide)) (pa_cons (pv 0) (pa_cons pe_int pa_nil))) (pa_cons (pv 2) pa_nil))))))
        (pss_one (ps_if (pt_not (pt_val (pe_callB (cr_all rfl) (by rfl) B.all boot_all (pa_cons (pe_lc (own := [("other", 5)]) rfl sc_law_right.nd (pi_list (pv 4)) (blkOk_by (own := [("other", 5)]) (N := N_law_right) (sc := defScope s_law_right) (by decide +kernel)) (fun _ _ _ _ _ => pg_name (i := 5) sc_law_right.nd rfl (Or.inl rfl)) (fun _ _ _ _ _ => pts_nil) (fun _ _ _ _ _ => (pe_fnG o_law_is_right hgd (hr.mono (by decide)) (pa_cons (pv 2) (pa_cons (pv 5) pa_nil))))) pa_nil)))) (pss_one (ps_ret pe_bl)) pss_nil))))))
      (pss_one (ps_ret pe_bl))), ?_⟩
    refine q_forR1 (n := ((3 : Nat) : Int)) (Evl.ea_cons ev_c Evl.ea_nil) (by decide) (fun i σ' H' => (∃ z1 z2 z3 z4, σ' = [some (.ref p), z1, z2, z3, z4, none]) ∧ But p H H' ∧ PotAt H' p (1000 * i)) (fun H1 e1 => ⟨⟨none, none, none, none, rfl⟩, But.of e1, hP.ex e1⟩) (fun i σ' H' hi h => ?_) (fun σ' H' h => ?_)
    · obtain ⟨⟨z1, z2, z3, z4, rfl⟩, eB, hP'⟩ := h
      have hi3 : i < 3 := by omega
      refine q_asgM (c_call (Evl.ea_cons (ev_var rfl) (Evl.ea_cons ev_c Evl.ea_nil) H' (Ex.refl _) _ fun H1 e1 => ⟨p, 1000 * i, 5, rfl, hP'.ex e1, by omega, by decide, by decide, fun v1 H2 m M eB2 hP2 hM fM => ?_⟩))
      have eB02 : But p H H2 := (eB.ex e1).trans eB2
      have hlen : Ev (tCB (rLenS K) (tCons (tVar 2) tNil)) [some (.ref p), some (.int (i : Int)), some v1, z3, z4, none] H2 (.int (m : Int)) := ev_is (ev_lenT (ed_var rfl fM)) (by rw [List.length_map, hM.len])
      have hm1 := hM.pos
      have hm2 := hM.le
      -- moved
      refine q_asgM (c_call (c_cons (ed_var (K := K) rfl fM H2 (Ex.refl _) _ fun v2 H3 e3 fM3 => c_cons (c_call (Evl.ea_cons (ev_var rfl) (Evl.ea_cons (hlen.mono e3) Evl.ea_nil) H3 (Ex.refl _) _ fun H4 e4 => ⟨p, 1000 * i + 60, m, rfl, hP2.ex (e3.trans e4), by omega, hm1, by omega, fun v5 H5 pi eB5 hP5 hpi fpi => c_nil ?_⟩)))))
      have eB05 : But p H H5 := (eB02.ex (e3.trans e4)).trans eB5
      have tx5 : TEx H3 H5 := (tex_of e4).trans ((hP2.ex (e3.trans e4)).tex eB5)
      refine ⟨[.d (tNN M), .d (tN pi)], _, rfl, ⟨v2, _, rfl, Fz.mono tx5 _ _ fM3, v5, [], rfl, fpi, rfl⟩, ⟨m, M, pi, rfl, hM.sq, hm2, hpi, rfl⟩, fun v6 H6 e6 f6 => ?_⟩
      have hMv : Pic m (movedN m M pi) := ⟨hm1, hm2, moved_sq.len, moved_sq.row, moved_pic hM.mark⟩
      have eB06 := eB05.ex e6
      have hP6 := hP5.ex e6
      have fM6 : Fz K H6 (tNN M) v1 := Fz.mono (((tex_of e3).trans tx5).trans (tex_of e6)) _ _ fM
      refine q_asgM (c_lst (c_cons (ed_var (K := K) rfl f6 H6 (Ex.refl _) _ fun v7 H7 e7 f7 => c_cons (c_call (Evl.ea_cons (ev_var rfl) (Evl.ea_cons (ev_var rfl) Evl.ea_nil) H7 (Ex.refl _) _ fun H8 e8 => ⟨p, 1000 * i + 60 + m + 1, m, v6, movedN m M pi, rfl, hP6.ex (e7.trans e8), by omega, hMv, fz_ex (e7.trans e8) f6, fun v9 H9 M9 eB9 hP9 hM9 f9 => ?_⟩)))))
      have tx9 : TEx H6 H9 := (tex_of (e7.trans e8)).trans ((hP6.ex (e7.trans e8)).tex eB9)
      refine c_cons (c_call (Evl.ea_cons (ev_var rfl) (Evl.ea_cons ev_c Evl.ea_nil) H9 (Ex.refl _) _ fun H10 e10 => ⟨p, 1000 * i + 60 + m + 1 + 3, 5, rfl, hP9.ex e10, by omega, by decide, by decide, fun v11 H11 m11 M11 eB11 hP11 hM11 f11 => ?_⟩))
      have tx11 : TEx H9 H11 := (tex_of e10).trans ((hP9.ex e10).tex eB11)
      have fM11 : Fz K H11 (tNN M) v1 := Fz.mono (tx9.trans tx11) _ _ fM6
      refine c_cons (ed_var (K := K) rfl fM11 H11 (Ex.refl _) _ fun v12 H12 e12 f12 => c_nil ⟨sz_of (show 4 ≤ 100000 by decide), fun l hl => ?_⟩)
      have eB12 : But p H H12 := ((((eB06.ex (e7.trans e8)).trans eB9).ex e10).trans eB11).ex e12
      have ef := Ex.new (o := .lst [v7, v9, v11, v12]) hl
      generalize hG : upd H12 l (.lst [v7, v9, v11, v12]) = G at ef
      have hGl : G l = some (.lst [v7, v9, v11, v12]) := by
        rw [← hG]
        exact upd_same
      have fG : FzL K G [tNN (movedN m M pi), tNN M9, tNN M11, tNN M] [v7, v9, v11, v12] := by
        have tb : TEx H7 H9 := (tex_of e8).trans ((hP6.ex (e7.trans e8)).tex eB9)
        refine fzl_cons (Fz.mono (((tb.trans tx11).trans (tex_of e12)).trans (tex_of ef)) _ _ f7) (fzl_cons (Fz.mono ((tx11.trans (tex_of e12)).trans (tex_of ef)) _ _ f9) (fzl_cons (fz_ex (e12.trans ef) f11) (fzl_cons (fz_ex ef f12) fzl_nil)))
      have fMG : Fz K G (tNN M) v1 := fz_ex (e12.trans ef) fM11
      have hds : ∀ d ∈ [tNN (movedN m M pi), tNN M9, tNN M11, tNN M], ∃ j N, Pic j N ∧ d = tNN N := fun d hd => by
        simp only [List.mem_cons, List.not_mem_nil, or_false] at hd
        rcases hd with rfl | rfl | rfl | rfl
        · exact ⟨_, _, hMv, rfl⟩
        · exact ⟨_, _, hM9, rfl⟩
        · exact ⟨_, _, hM11, rfl⟩
        · exact ⟨_, _, hM, rfl⟩
      refine s_when (b := false) (et_not (a := true) (et_test (ev_is (ev_all (bs := [true, true, true, true]) (el_mapL (ev_var rfl) (sq_of hGl) fG (show 4 ≤ 50000 by decide) rfl (fun _ => rfl) fun a x d e H13 e13 hd he f => ?_)) rfl))) (fun z => nomatch z) fun _ H13 e13 => ⟨⟨_, _, _, _, rfl⟩, ?_, ?_⟩
      · obtain ⟨j, N, hN, rfl⟩ := hds d (List.mem_of_getElem? hd)
        have hem := List.mem_of_getElem? he
        simp only [List.map_cons, List.map_nil, List.mem_cons, List.not_mem_nil, or_false, or_self] at hem
        subst hem
        exact ed_call (ea_d (ed_var rfl (fz_ex e13 fMG)) (ea_d (ed_var rfl f) ea_nil)) (pr_D ⟨m, j, M, N, rfl, hM, hN, rfl⟩)
      · exact (eB12.ex ef).ex e13
      · exact (hP11.ex ((e12.trans ef).trans e13)).le (by omega)
    · obtain ⟨⟨z1, z2, z3, z4, rfl⟩, eB, _⟩ := h
      exact s_ret ev_c fun H1 e1 => k H1 (eB.ex e1)
theorem ok_law (B : Bt mg) (o_law_pot : Okd P w K mg base "_law_pot" ["script", "place"] s_law_pot 1 (spPot K)) (o_law_cells : Okd P w K mg base "_law_cells" ["script", "most"] s_law_cells 1 (spCells K)) (o_law_right : Okg P w K mg base "_law_right" ["pot"] s_law_right 7 (spRight K))
    (d : DefIn K mg "law" ["script"] s_law) : Okg P w K mg base "law" ["script"] s_law 8 (spLaw K) := by
  refine Okg.mk d sc_law (fun vs H Q E h => ?_) (fun f cdv A outer s H vs Q E hgd hr h => ?_)
  · obtain ⟨a, ns, rfl, _⟩ := h
    rfl
  · obtain ⟨a, ns, rfl, hS, hl, k⟩ := h
    refine ⟨_, (pss_one (ps_ret (pe_callB (cr_all rfl) (by rfl) B.all boot_all (pa_cons (pe_lc (own := [("at", 1)]) rfl sc_law.nd (pi_list (pe_fn o_law_cells (hr.mono (by decide)) (pa_cons (pv 0) (pa_cons pe_int pa_nil)))) (blkOk_by (own := [("at", 1)]) (N := N_law) (sc := defScope s_law) (by decide +kernel)) (fun _ _ _ _ _ => pg_name (i := 1) sc_law.nd rfl (Or.inl rfl)) (fun _ _ _ _ _ => pts_nil) (fun _ _ _ _ _ => (pe_fnG o_law_right hgd (hr.mono (by decide)) (pa_cons (pe_fn o_law_pot (hr.mono (by decide)) (pa_cons (pv 0) (pa_cons (pv 1) pa_nil))) pa_nil)))) pa_nil)))), ?_⟩
    refine s_retM (c_cb (c_cons (c_lcList (c_call (Evl.ea_cons (ev_var rfl) (Evl.ea_cons ev_c Evl.ea_nil) H (Ex.refl _) _ fun H1 e1 => ⟨a, ns.map V.int, rfl, ex_l e1 hS, by rw [List.length_map]; omega, fun n p H2 hn hp e2 h2 => ⟨p, rfl, ?_⟩⟩)))))
    refine c_cb1 (ev_all (K := K) (bs := (List.range n).map fun _ => true) (el_mapL ev_c (sq_of h2) (fzl_nats.mpr rfl) (by rw [List.length_map, List.length_range]; omega) (by rw [List.length_map, List.length_map, List.length_map]) (fun _ => rfl) fun i x d e H3 e3 hd he f => ?_) H2 (Ex.refl _) _ fun H3 e3 => ?_)
    · obtain ⟨b, hb, rfl⟩ := tN_get hd
      obtain ⟨c, hc, rfl⟩ := map_get he
      obtain ⟨c2, _, rfl⟩ := map_get hc
      have hx := fz_intI f
      subst hx
      have hbn : b < n := List.mem_range.mp (List.mem_of_getElem? hb)
      refine fun H4 e4 Q2 q2 => c_call (c_cons (c_call (Evl.ea_cons (ev_var rfl) (Evl.ea_cons (ev_var rfl) Evl.ea_nil) H4 (Ex.refl _) _ fun H5 e5 => ⟨a, ns, b, rfl, ex_l ((((e1.trans e2).trans e3).trans e4).trans e5) hS, hl, by omega, fun pt H6 hpt e6 hP => c_nil ⟨pt, rfl, hP, fun H7 eB => q2 _ H7 ?_ fz_bl⟩⟩)))
      intro q o hq
      refine eB q o (fun z => ?_) (e6 _ _ (e5 _ _ hq))
      rw [z] at hq
      have := fresh_back e5 hpt
      rw [this] at hq
      cases hq
    · have : ((List.range n).map fun _ => true).all id = true := by simp
      rw [this]
      exact k H3
end
end WT
/-! What the top has written. -/
namespace WT
open PySem PySem.Spec PyProof.Rows L2 Evl
theorem fun_uniq {K : PySem.W.Frag} {x q : Str} {st : Stmt} {f : Addr} {fd fe : FuncData} (F : Fun K x q st f fd) (F' : Fun K x q st f fe) : fd = fe := by
  obtain ⟨_, _, _, _, _, _, _, _, _, rfl, lk, _⟩ := F.ex
  obtain ⟨_, _, _, _, _, _, _, _, _, rfl, lk', _⟩ := F'.ex
  rw [lk] at lk'
  cases lk'
  rfl
set_option maxHeartbeats 0 in
theorem all_mk {l : PySem.W.OpenLaw} {w : World} {K : PySem.W.Frag} {h : Heap} {mg : Str → Option Value} {fa : Addr} (X : K.In h) (G : h.Ns mainGlobals mg) (hfa : mg "law" = some (.ref fa))
    {f1 : Addr} {od1 an1 : Option Addr} {sl1 : Array (Option Value)} {oc1 kV1 dc1 pm1 cd1 ct1 : Value}
    {f2 : Addr} {od2 an2 : Option Addr} {sl2 : Array (Option Value)} {oc2 kV2 dc2 pm2 cd2 ct2 : Value}
    {f3 : Addr} {od3 an3 : Option Addr} {sl3 : Array (Option Value)} {oc3 kV3 dc3 pm3 cd3 ct3 : Value}
    {f4 : Addr} {od4 an4 : Option Addr} {sl4 : Array (Option Value)} {oc4 kV4 dc4 pm4 cd4 ct4 : Value}
    {f5 : Addr} {od5 an5 : Option Addr} {sl5 : Array (Option Value)} {oc5 kV5 dc5 pm5 cd5 ct5 : Value}
    {f6 : Addr} {od6 an6 : Option Addr} {sl6 : Array (Option Value)} {oc6 kV6 dc6 pm6 cd6 ct6 : Value}
    {f7 : Addr} {od7 an7 : Option Addr} {sl7 : Array (Option Value)} {oc7 kV7 dc7 pm7 cd7 ct7 : Value}
    {f8 : Addr} {od8 an8 : Option Addr} {sl8 : Array (Option Value)} {oc8 kV8 dc8 pm8 cd8 ct8 : Value}
    {f9 : Addr} {od9 an9 : Option Addr} {sl9 : Array (Option Value)} {oc9 kV9 dc9 pm9 cd9 ct9 : Value}
    {f10 : Addr} {od10 an10 : Option Addr} {sl10 : Array (Option Value)} {oc10 kV10 dc10 pm10 cd10 ct10 : Value}
    {f11 : Addr} {od11 an11 : Option Addr} {sl11 : Array (Option Value)} {oc11 kV11 dc11 pm11 cd11 ct11 : Value}
    {f12 : Addr} {od12 an12 : Option Addr} {sl12 : Array (Option Value)} {oc12 kV12 dc12 pm12 cd12 ct12 : Value}
    {f13 : Addr} {od13 an13 : Option Addr} {sl13 : Array (Option Value)} {oc13 kV13 dc13 pm13 cd13 ct13 : Value}
    {f14 : Addr} {od14 an14 : Option Addr} {sl14 : Array (Option Value)} {oc14 kV14 dc14 pm14 cd14 ct14 : Value}
    {f15 : Addr} {od15 an15 : Option Addr} {sl15 : Array (Option Value)} {oc15 kV15 dc15 pm15 cd15 ct15 : Value}
    {f16 : Addr} {od16 an16 : Option Addr} {sl16 : Array (Option Value)} {oc16 kV16 dc16 pm16 cd16 ct16 : Value}
    {f17 : Addr} {od17 an17 : Option Addr} {sl17 : Array (Option Value)} {oc17 kV17 dc17 pm17 cd17 ct17 : Value}
    {f18 : Addr} {od18 an18 : Option Addr} {sl18 : Array (Option Value)} {oc18 kV18 dc18 pm18 cd18 ct18 : Value}
    {f19 : Addr} {od19 an19 : Option Addr} {sl19 : Array (Option Value)} {oc19 kV19 dc19 pm19 cd19 ct19 : Value}
    {f20 : Addr} {od20 an20 : Option Addr} {sl20 : Array (Option Value)} {oc20 kV20 dc20 pm20 cd20 ct20 : Value}
    {f21 : Addr} {od21 an21 : Option Addr} {sl21 : Array (Option Value)} {oc21 kV21 dc21 pm21 cd21 ct21 : Value}
    {f22 : Addr} {od22 an22 : Option Addr} {sl22 : Array (Option Value)} {oc22 kV22 dc22 pm22 cd22 ct22 : Value}
    {f23 : Addr} {od23 an23 : Option Addr} {sl23 : Array (Option Value)} {oc23 kV23 dc23 pm23 cd23 ct23 : Value}
    {f24 : Addr} {od24 an24 : Option Addr} {sl24 : Array (Option Value)} {oc24 kV24 dc24 pm24 cd24 ct24 : Value}
    {f25 : Addr} {od25 an25 : Option Addr} {sl25 : Array (Option Value)} {oc25 kV25 dc25 pm25 cd25 ct25 : Value}
    {t_most_spots : Tok} {t_most_mark : Tok} {t_position : Tok} {t_least : Tok}
    (a1 : PySem.W.nsIn K mainGlobals "is_int" = some (some (.ref f1))) (l1 : K.lookup f1 = some ⟨oc1, od1, .func (PySem.W.fnOf "is_int" "is_int" (defArgs s_is_int) (defBody s_is_int) (defScope s_is_int) .none kV1 dc1 pm1 an1 cd1 ct1), sl1⟩) (c1 : PySem.W.codeIn K cd1 "is_int" = true) (i1 : PySem.W.keepIn K (.ref f1) = true)
    (a2 : PySem.W.nsIn K mainGlobals "is_position_of" = some (some (.ref f2))) (l2 : K.lookup f2 = some ⟨oc2, od2, .func (PySem.W.fnOf "is_position_of" "is_position_of" (defArgs s_is_position_of) (defBody s_is_position_of) (defScope s_is_position_of) .none kV2 dc2 pm2 an2 cd2 ct2), sl2⟩) (c2 : PySem.W.codeIn K cd2 "is_position_of" = true) (i2 : PySem.W.keepIn K (.ref f2) = true)
    (a3 : PySem.W.nsIn K mainGlobals "is_picture" = some (some (.ref f3))) (l3 : K.lookup f3 = some ⟨oc3, od3, .func (PySem.W.fnOf "is_picture" "is_picture" (defArgs s_is_picture) (defBody s_is_picture) (defScope s_is_picture) .none kV3 dc3 pm3 an3 cd3 ct3), sl3⟩) (c3 : PySem.W.codeIn K cd3 "is_picture" = true) (i3 : PySem.W.keepIn K (.ref f3) = true)
    (a4 : PySem.W.nsIn K mainGlobals "look_at_picture" = some (some (.ref f4))) (l4 : K.lookup f4 = some ⟨oc4, od4, .func (PySem.W.fnOf "look_at_picture" "look_at_picture" (defArgs s_look_at_picture) (defBody s_look_at_picture) (defScope s_look_at_picture) .none kV4 dc4 pm4 an4 cd4 ct4), sl4⟩) (c4 : PySem.W.codeIn K cd4 "look_at_picture" = true) (i4 : PySem.W.keepIn K (.ref f4) = true)
    (a5 : PySem.W.nsIn K mainGlobals "told_moved" = some (some (.ref f5))) (l5 : K.lookup f5 = some ⟨oc5, od5, .func (PySem.W.fnOf "told_moved" "told_moved" (defArgs s_told_moved) (defBody s_told_moved) (defScope s_told_moved) .none kV5 dc5 pm5 an5 cd5 ct5), sl5⟩) (c5 : PySem.W.codeIn K cd5 "told_moved" = true) (i5 : PySem.W.keepIn K (.ref f5) = true)
    (a6 : PySem.W.nsIn K mainGlobals "marks_with" = some (some (.ref f6))) (l6 : K.lookup f6 = some ⟨oc6, od6, .func (PySem.W.fnOf "marks_with" "marks_with" (defArgs s_marks_with) (defBody s_marks_with) (defScope s_marks_with) .none kV6 dc6 pm6 an6 cd6 ct6), sl6⟩) (c6 : PySem.W.codeIn K cd6 "marks_with" = true) (i6 : PySem.W.keepIn K (.ref f6) = true)
    (a7 : PySem.W.nsIn K mainGlobals "least_orders" = some (some (.ref f7))) (l7 : K.lookup f7 = some ⟨oc7, od7, .func (PySem.W.fnOf "least_orders" "least_orders" (defArgs s_least_orders) (defBody s_least_orders) (defScope s_least_orders) .none kV7 dc7 pm7 an7 cd7 ct7), sl7⟩) (c7 : PySem.W.codeIn K cd7 "least_orders" = true) (i7 : PySem.W.keepIn K (.ref f7) = true)
    (a8 : PySem.W.nsIn K mainGlobals "position_by" = some (some (.ref f8))) (l8 : K.lookup f8 = some ⟨oc8, od8, .func (PySem.W.fnOf "position_by" "position_by" (defArgs s_position_by) (defBody s_position_by) (defScope s_position_by) .none kV8 dc8 pm8 an8 cd8 ct8), sl8⟩) (c8 : PySem.W.codeIn K cd8 "position_by" = true) (i8 : PySem.W.keepIn K (.ref f8) = true)
    (a9 : PySem.W.nsIn K mainGlobals "least_picture" = some (some (.ref f9))) (l9 : K.lookup f9 = some ⟨oc9, od9, .func (PySem.W.fnOf "least_picture" "least_picture" (defArgs s_least_picture) (defBody s_least_picture) (defScope s_least_picture) .none kV9 dc9 pm9 an9 cd9 ct9), sl9⟩) (c9 : PySem.W.codeIn K cd9 "least_picture" = true) (i9 : PySem.W.keepIn K (.ref f9) = true)
    (a10 : PySem.W.nsIn K mainGlobals "look_at_pictures" = some (some (.ref f10))) (l10 : K.lookup f10 = some ⟨oc10, od10, .func (PySem.W.fnOf "look_at_pictures" "look_at_pictures" (defArgs s_look_at_pictures) (defBody s_look_at_pictures) (defScope s_look_at_pictures) .none kV10 dc10 pm10 an10 cd10 ct10), sl10⟩) (c10 : PySem.W.codeIn K cd10 "look_at_pictures" = true) (i10 : PySem.W.keepIn K (.ref f10) = true)
    (a11 : PySem.W.nsIn K mainGlobals "same_picture" = some (some (.ref f11))) (l11 : K.lookup f11 = some ⟨oc11, od11, .func (PySem.W.fnOf "same_picture" "same_picture" (defArgs s_same_picture) (defBody s_same_picture) (defScope s_same_picture) .none kV11 dc11 pm11 an11 cd11 ct11), sl11⟩) (c11 : PySem.W.codeIn K cd11 "same_picture" = true) (i11 : PySem.W.keepIn K (.ref f11) = true)
    (a12 : PySem.W.nsIn K mainGlobals "shows_same_picture" = some (some (.ref f12))) (l12 : K.lookup f12 = some ⟨oc12, od12, .func (PySem.W.fnOf "shows_same_picture" "shows_same_picture" (defArgs s_shows_same_picture) (defBody s_shows_same_picture) (defScope s_shows_same_picture) .none kV12 dc12 pm12 an12 cd12 ct12), sl12⟩) (c12 : PySem.W.codeIn K cd12 "shows_same_picture" = true) (i12 : PySem.W.keepIn K (.ref f12) = true)
    (a13 : PySem.W.nsIn K mainGlobals "_law_pot" = some (some (.ref f13))) (l13 : K.lookup f13 = some ⟨oc13, od13, .func (PySem.W.fnOf "_law_pot" "_law_pot" (defArgs s_law_pot) (defBody s_law_pot) (defScope s_law_pot) .none kV13 dc13 pm13 an13 cd13 ct13), sl13⟩) (c13 : PySem.W.codeIn K cd13 "_law_pot" = true) (i13 : PySem.W.keepIn K (.ref f13) = true)
    (a14 : PySem.W.nsIn K mainGlobals "_law_take" = some (some (.ref f14))) (l14 : K.lookup f14 = some ⟨oc14, od14, .func (PySem.W.fnOf "_law_take" "_law_take" (defArgs s_law_take) (defBody s_law_take) (defScope s_law_take) .none kV14 dc14 pm14 an14 cd14 ct14), sl14⟩) (c14 : PySem.W.codeIn K cd14 "_law_take" = true) (i14 : PySem.W.keepIn K (.ref f14) = true)
    (a15 : PySem.W.nsIn K mainGlobals "_law_cells" = some (some (.ref f15))) (l15 : K.lookup f15 = some ⟨oc15, od15, .func (PySem.W.fnOf "_law_cells" "_law_cells" (defArgs s_law_cells) (defBody s_law_cells) (defScope s_law_cells) .none kV15 dc15 pm15 an15 cd15 ct15), sl15⟩) (c15 : PySem.W.codeIn K cd15 "_law_cells" = true) (i15 : PySem.W.keepIn K (.ref f15) = true)
    (a16 : PySem.W.nsIn K mainGlobals "_law_some" = some (some (.ref f16))) (l16 : K.lookup f16 = some ⟨oc16, od16, .func (PySem.W.fnOf "_law_some" "_law_some" (defArgs s_law_some) (defBody s_law_some) (defScope s_law_some) .none kV16 dc16 pm16 an16 cd16 ct16), sl16⟩) (c16 : PySem.W.codeIn K cd16 "_law_some" = true) (i16 : PySem.W.keepIn K (.ref f16) = true)
    (a17 : PySem.W.nsIn K mainGlobals "_law_is_bool" = some (some (.ref f17))) (l17 : K.lookup f17 = some ⟨oc17, od17, .func (PySem.W.fnOf "_law_is_bool" "_law_is_bool" (defArgs s_law_is_bool) (defBody s_law_is_bool) (defScope s_law_is_bool) .none kV17 dc17 pm17 an17 cd17 ct17), sl17⟩) (c17 : PySem.W.codeIn K cd17 "_law_is_bool" = true) (i17 : PySem.W.keepIn K (.ref f17) = true)
    (a18 : PySem.W.nsIn K mainGlobals "_law_position_drawn" = some (some (.ref f18))) (l18 : K.lookup f18 = some ⟨oc18, od18, .func (PySem.W.fnOf "_law_position_drawn" "_law_position_drawn" (defArgs s_law_position_drawn) (defBody s_law_position_drawn) (defScope s_law_position_drawn) .none kV18 dc18 pm18 an18 cd18 ct18), sl18⟩) (c18 : PySem.W.codeIn K cd18 "_law_position_drawn" = true) (i18 : PySem.W.keepIn K (.ref f18) = true)
    (a19 : PySem.W.nsIn K mainGlobals "_law_picture_drawn" = some (some (.ref f19))) (l19 : K.lookup f19 = some ⟨oc19, od19, .func (PySem.W.fnOf "_law_picture_drawn" "_law_picture_drawn" (defArgs s_law_picture_drawn) (defBody s_law_picture_drawn) (defScope s_law_picture_drawn) .none kV19 dc19 pm19 an19 cd19 ct19), sl19⟩) (c19 : PySem.W.codeIn K cd19 "_law_picture_drawn" = true) (i19 : PySem.W.keepIn K (.ref f19) = true)
    (a20 : PySem.W.nsIn K mainGlobals "_law_moved" = some (some (.ref f20))) (l20 : K.lookup f20 = some ⟨oc20, od20, .func (PySem.W.fnOf "_law_moved" "_law_moved" (defArgs s_law_moved) (defBody s_law_moved) (defScope s_law_moved) .none kV20 dc20 pm20 an20 cd20 ct20), sl20⟩) (c20 : PySem.W.codeIn K cd20 "_law_moved" = true) (i20 : PySem.W.keepIn K (.ref f20) = true)
    (a21 : PySem.W.nsIn K mainGlobals "_law_every" = some (some (.ref f21))) (l21 : K.lookup f21 = some ⟨oc21, od21, .func (PySem.W.fnOf "_law_every" "_law_every" (defArgs s_law_every) (defBody s_law_every) (defScope s_law_every) .none kV21 dc21 pm21 an21 cd21 ct21), sl21⟩) (c21 : PySem.W.codeIn K cd21 "_law_every" = true) (i21 : PySem.W.keepIn K (.ref f21) = true)
    (a22 : PySem.W.nsIn K mainGlobals "_law_is_right" = some (some (.ref f22))) (l22 : K.lookup f22 = some ⟨oc22, od22, .func (PySem.W.fnOf "_law_is_right" "_law_is_right" (defArgs s_law_is_right) (defBody s_law_is_right) (defScope s_law_is_right) .none kV22 dc22 pm22 an22 cd22 ct22), sl22⟩) (c22 : PySem.W.codeIn K cd22 "_law_is_right" = true) (i22 : PySem.W.keepIn K (.ref f22) = true)
    (a23 : PySem.W.nsIn K mainGlobals "_law_near" = some (some (.ref f23))) (l23 : K.lookup f23 = some ⟨oc23, od23, .func (PySem.W.fnOf "_law_near" "_law_near" (defArgs s_law_near) (defBody s_law_near) (defScope s_law_near) .none kV23 dc23 pm23 an23 cd23 ct23), sl23⟩) (c23 : PySem.W.codeIn K cd23 "_law_near" = true) (i23 : PySem.W.keepIn K (.ref f23) = true)
    (a24 : PySem.W.nsIn K mainGlobals "_law_right" = some (some (.ref f24))) (l24 : K.lookup f24 = some ⟨oc24, od24, .func (PySem.W.fnOf "_law_right" "_law_right" (defArgs s_law_right) (defBody s_law_right) (defScope s_law_right) .none kV24 dc24 pm24 an24 cd24 ct24), sl24⟩) (c24 : PySem.W.codeIn K cd24 "_law_right" = true) (i24 : PySem.W.keepIn K (.ref f24) = true)
    (a25 : PySem.W.nsIn K mainGlobals "law" = some (some (.ref f25))) (l25 : K.lookup f25 = some ⟨oc25, od25, .func (PySem.W.fnOf "law" "law" (defArgs s_law) (defBody s_law) (defScope s_law) .none kV25 dc25 pm25 an25 cd25 ct25), sl25⟩) (c25 : PySem.W.codeIn K cd25 "law" = true) (i25 : PySem.W.keepIn K (.ref f25) = true)
    (z_len : PySem.W.nsIn K mainGlobals "len" = some none) (z_range : PySem.W.nsIn K mainGlobals "range" = some none) (z_tuple : PySem.W.nsIn K mainGlobals "tuple" = some none) (z_list : PySem.W.nsIn K mainGlobals "list" = some none) (z_int : PySem.W.nsIn K mainGlobals "int" = some none) (z_abs : PySem.W.nsIn K mainGlobals "abs" = some none) (z_sum : PySem.W.nsIn K mainGlobals "sum" = some none) (z_max : PySem.W.nsIn K mainGlobals "max" = some none) (z_min : PySem.W.nsIn K mainGlobals "min" = some none) (z_all : PySem.W.nsIn K mainGlobals "all" = some none) (z_enumerate : PySem.W.nsIn K mainGlobals "enumerate" = some none) (z_zip : PySem.W.nsIn K mainGlobals "zip" = some none) (z_isinstance : PySem.W.nsIn K mainGlobals "isinstance" = some none) (z_repr : PySem.W.nsIn K mainGlobals "repr" = some none) (z_bool : PySem.W.nsIn K mainGlobals "bool" = some none) (z_str : PySem.W.nsIn K mainGlobals "str" = some none) (z_set : PySem.W.nsIn K mainGlobals "set" = some none)
    (q_most_spots : PySem.W.nsIn K mainGlobals "MOST_SPOTS" = some (some (.int 8 t_most_spots))) (q_most_mark : PySem.W.nsIn K mainGlobals "MOST_MARK" = some (some (.int 9 t_most_mark))) (q_position : PySem.W.nsIn K mainGlobals "POSITION" = some (some (.str "position" t_position))) (q_least : PySem.W.nsIn K mainGlobals "LEAST" = some (some (.str "least" t_least)))
    : ∃ fd : FuncData, (∀ (s : Shared) (v : Value), BindsTo s fd ⟨[v], []⟩ [("script", v)]) ∧ ∀ base : Heap, K.In base → base.Ns mainGlobals mg → FnG l.prog w K mg base 8 fa fd ["script"] (spLaw K) := by
  have e := hfa.symm.trans (PySem.W.mg_of X G a25)
  cases e
  have d_is_int : DefIn K mg "is_int" ["value", "low", "high"] s_is_int := ⟨⟨_, _, fun_mk (st := s_is_int) l1 c1 i1, PySem.W.mg_of X G a1, (fun_mk (st := s_is_int) l1 c1 i1).binds (ps := ["value", "low", "high"]) fun _ _ _ _ _ _ us hl => match us, hl with | [_, _, _], _ => rfl⟩⟩
  have d_is_position_of : DefIn K mg "is_position_of" ["many", "value"] s_is_position_of := ⟨⟨_, _, fun_mk (st := s_is_position_of) l2 c2 i2, PySem.W.mg_of X G a2, (fun_mk (st := s_is_position_of) l2 c2 i2).binds (ps := ["many", "value"]) fun _ _ _ _ _ _ us hl => match us, hl with | [_, _], _ => rfl⟩⟩
  have d_is_picture : DefIn K mg "is_picture" ["value"] s_is_picture := ⟨⟨_, _, fun_mk (st := s_is_picture) l3 c3 i3, PySem.W.mg_of X G a3, (fun_mk (st := s_is_picture) l3 c3 i3).binds (ps := ["value"]) fun _ _ _ _ _ _ us hl => match us, hl with | [_], _ => rfl⟩⟩
  have d_look_at_picture : DefIn K mg "look_at_picture" ["picture"] s_look_at_picture := ⟨⟨_, _, fun_mk (st := s_look_at_picture) l4 c4 i4, PySem.W.mg_of X G a4, (fun_mk (st := s_look_at_picture) l4 c4 i4).binds (ps := ["picture"]) fun _ _ _ _ _ _ us hl => match us, hl with | [_], _ => rfl⟩⟩
  have d_told_moved : DefIn K mg "told_moved" ["picture", "position"] s_told_moved := ⟨⟨_, _, fun_mk (st := s_told_moved) l5 c5 i5, PySem.W.mg_of X G a5, (fun_mk (st := s_told_moved) l5 c5 i5).binds (ps := ["picture", "position"]) fun _ _ _ _ _ _ us hl => match us, hl with | [_, _], _ => rfl⟩⟩
  have d_marks_with : DefIn K mg "marks_with" ["picture", "chosen", "place"] s_marks_with := ⟨⟨_, _, fun_mk (st := s_marks_with) l6 c6 i6, PySem.W.mg_of X G a6, (fun_mk (st := s_marks_with) l6 c6 i6).binds (ps := ["picture", "chosen", "place"]) fun _ _ _ _ _ _ us hl => match us, hl with | [_, _, _], _ => rfl⟩⟩
  have d_least_orders : DefIn K mg "least_orders" ["picture"] s_least_orders := ⟨⟨_, _, fun_mk (st := s_least_orders) l7 c7 i7, PySem.W.mg_of X G a7, (fun_mk (st := s_least_orders) l7 c7 i7).binds (ps := ["picture"]) fun _ _ _ _ _ _ us hl => match us, hl with | [_], _ => rfl⟩⟩
  have d_position_by : DefIn K mg "position_by" ["order"] s_position_by := ⟨⟨_, _, fun_mk (st := s_position_by) l8 c8 i8, PySem.W.mg_of X G a8, (fun_mk (st := s_position_by) l8 c8 i8).binds (ps := ["order"]) fun _ _ _ _ _ _ us hl => match us, hl with | [_], _ => rfl⟩⟩
  have d_least_picture : DefIn K mg "least_picture" ["picture"] s_least_picture := ⟨⟨_, _, fun_mk (st := s_least_picture) l9 c9 i9, PySem.W.mg_of X G a9, (fun_mk (st := s_least_picture) l9 c9 i9).binds (ps := ["picture"]) fun _ _ _ _ _ _ us hl => match us, hl with | [_], _ => rfl⟩⟩
  have d_look_at_pictures : DefIn K mg "look_at_pictures" ["one", "other"] s_look_at_pictures := ⟨⟨_, _, fun_mk (st := s_look_at_pictures) l10 c10 i10, PySem.W.mg_of X G a10, (fun_mk (st := s_look_at_pictures) l10 c10 i10).binds (ps := ["one", "other"]) fun _ _ _ _ _ _ us hl => match us, hl with | [_, _], _ => rfl⟩⟩
  have d_same_picture : DefIn K mg "same_picture" ["one", "other"] s_same_picture := ⟨⟨_, _, fun_mk (st := s_same_picture) l11 c11 i11, PySem.W.mg_of X G a11, (fun_mk (st := s_same_picture) l11 c11 i11).binds (ps := ["one", "other"]) fun _ _ _ _ _ _ us hl => match us, hl with | [_, _], _ => rfl⟩⟩
  have d_shows_same_picture : DefIn K mg "shows_same_picture" ["one", "other", "value"] s_shows_same_picture := ⟨⟨_, _, fun_mk (st := s_shows_same_picture) l12 c12 i12, PySem.W.mg_of X G a12, (fun_mk (st := s_shows_same_picture) l12 c12 i12).binds (ps := ["one", "other", "value"]) fun _ _ _ _ _ _ us hl => match us, hl with | [_, _, _], _ => rfl⟩⟩
  have d_law_pot : DefIn K mg "_law_pot" ["script", "place"] s_law_pot := ⟨⟨_, _, fun_mk (st := s_law_pot) l13 c13 i13, PySem.W.mg_of X G a13, (fun_mk (st := s_law_pot) l13 c13 i13).binds (ps := ["script", "place"]) fun _ _ _ _ _ _ us hl => match us, hl with | [_, _], _ => rfl⟩⟩
  have d_law_take : DefIn K mg "_law_take" ["pot", "upto"] s_law_take := ⟨⟨_, _, fun_mk (st := s_law_take) l14 c14 i14, PySem.W.mg_of X G a14, (fun_mk (st := s_law_take) l14 c14 i14).binds (ps := ["pot", "upto"]) fun _ _ _ _ _ _ us hl => match us, hl with | [_, _], _ => rfl⟩⟩
  have d_law_cells : DefIn K mg "_law_cells" ["script", "most"] s_law_cells := ⟨⟨_, _, fun_mk (st := s_law_cells) l15 c15 i15, PySem.W.mg_of X G a15, (fun_mk (st := s_law_cells) l15 c15 i15).binds (ps := ["script", "most"]) fun _ _ _ _ _ _ us hl => match us, hl with | [_, _], _ => rfl⟩⟩
  have d_law_some : DefIn K mg "_law_some" ["pot", "pool", "many"] s_law_some := ⟨⟨_, _, fun_mk (st := s_law_some) l16 c16 i16, PySem.W.mg_of X G a16, (fun_mk (st := s_law_some) l16 c16 i16).binds (ps := ["pot", "pool", "many"]) fun _ _ _ _ _ _ us hl => match us, hl with | [_, _, _], _ => rfl⟩⟩
  have d_law_is_bool : DefIn K mg "_law_is_bool" ["told", "due"] s_law_is_bool := ⟨⟨_, _, fun_mk (st := s_law_is_bool) l17 c17 i17, PySem.W.mg_of X G a17, (fun_mk (st := s_law_is_bool) l17 c17 i17).binds (ps := ["told", "due"]) fun _ _ _ _ _ _ us hl => match us, hl with | [_, _], _ => rfl⟩⟩
  have d_law_position_drawn : DefIn K mg "_law_position_drawn" ["pot", "many"] s_law_position_drawn := ⟨⟨_, _, fun_mk (st := s_law_position_drawn) l18 c18 i18, PySem.W.mg_of X G a18, (fun_mk (st := s_law_position_drawn) l18 c18 i18).binds (ps := ["pot", "many"]) fun _ _ _ _ _ _ us hl => match us, hl with | [_, _], _ => rfl⟩⟩
  have d_law_picture_drawn : DefIn K mg "_law_picture_drawn" ["pot", "most"] s_law_picture_drawn := ⟨⟨_, _, fun_mk (st := s_law_picture_drawn) l19 c19 i19, PySem.W.mg_of X G a19, (fun_mk (st := s_law_picture_drawn) l19 c19 i19).binds (ps := ["pot", "most"]) fun _ _ _ _ _ _ us hl => match us, hl with | [_, _], _ => rfl⟩⟩
  have d_law_moved : DefIn K mg "_law_moved" ["picture", "position"] s_law_moved := ⟨⟨_, _, fun_mk (st := s_law_moved) l20 c20 i20, PySem.W.mg_of X G a20, (fun_mk (st := s_law_moved) l20 c20 i20).binds (ps := ["picture", "position"]) fun _ _ _ _ _ _ us hl => match us, hl with | [_, _], _ => rfl⟩⟩
  have d_law_every : DefIn K mg "_law_every" ["many"] s_law_every := ⟨⟨_, _, fun_mk (st := s_law_every) l21 c21 i21, PySem.W.mg_of X G a21, (fun_mk (st := s_law_every) l21 c21 i21).binds (ps := ["many"]) fun _ _ _ _ _ _ us hl => match us, hl with | [_], _ => rfl⟩⟩
  have d_law_is_right : DefIn K mg "_law_is_right" ["one", "other"] s_law_is_right := ⟨⟨_, _, fun_mk (st := s_law_is_right) l22 c22 i22, PySem.W.mg_of X G a22, (fun_mk (st := s_law_is_right) l22 c22 i22).binds (ps := ["one", "other"]) fun _ _ _ _ _ _ us hl => match us, hl with | [_, _], _ => rfl⟩⟩
  have d_law_near : DefIn K mg "_law_near" ["pot", "picture"] s_law_near := ⟨⟨_, _, fun_mk (st := s_law_near) l23 c23 i23, PySem.W.mg_of X G a23, (fun_mk (st := s_law_near) l23 c23 i23).binds (ps := ["pot", "picture"]) fun _ _ _ _ _ _ us hl => match us, hl with | [_, _], _ => rfl⟩⟩
  have d_law_right : DefIn K mg "_law_right" ["pot"] s_law_right := ⟨⟨_, _, fun_mk (st := s_law_right) l24 c24 i24, PySem.W.mg_of X G a24, (fun_mk (st := s_law_right) l24 c24 i24).binds (ps := ["pot"]) fun _ _ _ _ _ _ us hl => match us, hl with | [_], _ => rfl⟩⟩
  have d_law : DefIn K mg "law" ["script"] s_law := ⟨⟨_, _, fun_mk (st := s_law) l25 c25 i25, PySem.W.mg_of X G a25, (fun_mk (st := s_law) l25 c25 i25).binds (ps := ["script"]) fun _ _ _ _ _ _ us hl => match us, hl with | [_], _ => rfl⟩⟩
  have B : Bt mg := { len := PySem.W.mg_none_of X G z_len, range := PySem.W.mg_none_of X G z_range, tuple := PySem.W.mg_none_of X G z_tuple, list := PySem.W.mg_none_of X G z_list, int := PySem.W.mg_none_of X G z_int, abs := PySem.W.mg_none_of X G z_abs, sum := PySem.W.mg_none_of X G z_sum, max := PySem.W.mg_none_of X G z_max, min := PySem.W.mg_none_of X G z_min, all := PySem.W.mg_none_of X G z_all, enumerate := PySem.W.mg_none_of X G z_enumerate, zip := PySem.W.mg_none_of X G z_zip, isinstance := PySem.W.mg_none_of X G z_isinstance, repr := PySem.W.mg_none_of X G z_repr, bool := PySem.W.mg_none_of X G z_bool, str := PySem.W.mg_none_of X G z_str, set := PySem.W.mg_none_of X G z_set }
  have C : Cs mg := ⟨⟨_, PySem.W.mg_of X G q_most_spots⟩, ⟨_, PySem.W.mg_of X G q_most_mark⟩, ⟨_, PySem.W.mg_of X G q_position⟩, ⟨_, PySem.W.mg_of X G q_least⟩⟩
  refine ⟨PySem.W.fnOf "law" "law" (defArgs s_law) (defBody s_law) (defScope s_law) .none kV25 dc25 pm25 an25 cd25 ct25, fun s v => .of_eq rfl, fun base _ _ => ?_⟩
  have o_is_int := ok_is_int (P := l.prog) (w := w) (base := base) B d_is_int
  have o_is_pos := ok_is_position_of B o_is_int d_is_position_of
  have o_is_pic := ok_is_picture B C o_is_int d_is_picture
  have o_look := ok_look_at_picture B o_is_pic d_look_at_picture
  have o_looks := ok_look_at_pictures B o_look d_look_at_pictures
  have o_told := ok_told_moved (P := l.prog) (w := w) (base := base) B d_told_moved
  have o_marks := ok_marks (P := l.prog) (w := w) (base := base) B d_marks_with
  have o_orders := ok_orders B o_marks d_least_orders
  have o_posby := ok_posby (P := l.prog) (w := w) (base := base) B d_position_by
  have o_least := ok_least B o_look o_orders o_posby o_told d_least_picture
  have o_same := ok_same B C o_looks o_orders o_least d_same_picture
  have o_shows := ok_shows B C o_looks o_is_pos o_told o_is_pic o_least d_shows_same_picture
  have o_pot := ok_pot (P := l.prog) (w := w) (base := base) B d_law_pot
  have o_take := ok_take (P := l.prog) (w := w) (base := base) B d_law_take
  have o_cells := ok_cells (P := l.prog) (w := w) (base := base) B d_law_cells
  have o_some := ok_some B o_take d_law_some
  have o_bool := ok_bool2 (P := l.prog) (w := w) (base := base) B d_law_is_bool
  have o_posn := ok_posn B o_take o_some d_law_position_drawn
  have o_pic := ok_pic B o_take d_law_picture_drawn
  have o_moved := ok_law_moved (P := l.prog) (w := w) (base := base) B d_law_moved
  have o_every := ok_every (P := l.prog) (w := w) (base := base) B d_law_every
  have o_isright := ok_isright B o_every o_moved o_bool o_same o_shows o_least d_law_is_right
  have o_near := ok_near B o_take d_law_near
  have o_right := ok_right B o_pic o_posn o_moved o_near o_isright d_law_right
  have o_law := ok_law B o_pot o_cells o_right d_law
  obtain ⟨f, fd, g, F, _, FG⟩ := o_law
  have ef := g.symm.trans (PySem.W.mg_of X G a25)
  cases ef
  have ed := fun_uniq F (fun_mk (st := s_law) l25 c25 i25)
  subst ed
  exact FG
end WT
open PySem PySem.W PyProof.Rows in
set_option maxHeartbeats 0 in
theorem PySem.Challenge.cw_whicheverturning_k14_whole_pictures_that_holds : PySem.Challenge.rw_whicheverturning_k14_whole_pictures_that.Holds := by
  w_on; o_law; k_head; (case hw => w_witness2)
  k_fill
  refine WT.walkG (l := PySem.Challenge.rw_whicheverturning_k14_whole_pictures_that) (n := 63) (k := 8) (x := "script") (sp := WT.spLaw) rfl (by decide) rfl ⟨rfl, by decide, by decide⟩ (fun w h Y => PySem.W.kIn_of Y) ?F (fun _ _ a ns hl _ hS => ⟨a, ns, rfl, hS, hl, fun _ => rfl⟩)
  case F =>
    intro w mg fa h KX G hmg
    refine' WT.all_mk KX G hmg ?a1 ?l1 ?c1 ?i1 ?a2 ?l2 ?c2 ?i2 ?a3 ?l3 ?c3 ?i3 ?a4 ?l4 ?c4 ?i4 ?a5 ?l5 ?c5 ?i5 ?a6 ?l6 ?c6 ?i6 ?a7 ?l7 ?c7 ?i7 ?a8 ?l8 ?c8 ?i8 ?a9 ?l9 ?c9 ?i9 ?a10 ?l10 ?c10 ?i10 ?a11 ?l11 ?c11 ?i11 ?a12 ?l12 ?c12 ?i12 ?a13 ?l13 ?c13 ?i13 ?a14 ?l14 ?c14 ?i14 ?a15 ?l15 ?c15 ?i15 ?a16 ?l16 ?c16 ?i16 ?a17 ?l17 ?c17 ?i17 ?a18 ?l18 ?c18 ?i18 ?a19 ?l19 ?c19 ?i19 ?a20 ?l20 ?c20 ?i20 ?a21 ?l21 ?c21 ?i21 ?a22 ?l22 ?c22 ?i22 ?a23 ?l23 ?c23 ?i23 ?a24 ?l24 ?c24 ?i24 ?a25 ?l25 ?c25 ?i25 ?z_len ?z_range ?z_tuple ?z_list ?z_int ?z_abs ?z_sum ?z_max ?z_min ?z_all ?z_enumerate ?z_zip ?z_isinstance ?z_repr ?z_bool ?z_str ?z_set ?q_most_spots ?q_most_mark ?q_position ?q_least
    (case a1 => k_is)
    (case l1 => k_is)
    (case c1 => k_is)
    (case i1 => k_is)
    (case a2 => k_is)
    (case l2 => k_is)
    (case c2 => k_is)
    (case i2 => k_is)
    (case a3 => k_is)
    (case l3 => k_is)
    (case c3 => k_is)
    (case i3 => k_is)
    (case a4 => k_is)
    (case l4 => k_is)
    (case c4 => k_is)
    (case i4 => k_is)
    (case a5 => k_is)
    (case l5 => k_is)
    (case c5 => k_is)
    (case i5 => k_is)
    (case a6 => k_is)
    (case l6 => k_is)
    (case c6 => k_is)
    (case i6 => k_is)
    (case a7 => k_is)
    (case l7 => k_is)
    (case c7 => k_is)
    (case i7 => k_is)
    (case a8 => k_is)
    (case l8 => k_is)
    (case c8 => k_is)
    (case i8 => k_is)
    (case a9 => k_is)
    (case l9 => k_is)
    (case c9 => k_is)
    (case i9 => k_is)
    (case a10 => k_is)
    (case l10 => k_is)
    (case c10 => k_is)
    (case i10 => k_is)
    (case a11 => k_is)
    (case l11 => k_is)
    (case c11 => k_is)
    (case i11 => k_is)
    (case a12 => k_is)
    (case l12 => k_is)
    (case c12 => k_is)
    (case i12 => k_is)
    (case a13 => k_is)
    (case l13 => k_is)
    (case c13 => k_is)
    (case i13 => k_is)
    (case a14 => k_is)
    (case l14 => k_is)
    (case c14 => k_is)
    (case i14 => k_is)
    (case a15 => k_is)
    (case l15 => k_is)
    (case c15 => k_is)
    (case i15 => k_is)
    (case a16 => k_is)
    (case l16 => k_is)
    (case c16 => k_is)
    (case i16 => k_is)
    (case a17 => k_is)
    (case l17 => k_is)
    (case c17 => k_is)
    (case i17 => k_is)
    (case a18 => k_is)
    (case l18 => k_is)
    (case c18 => k_is)
    (case i18 => k_is)
    (case a19 => k_is)
    (case l19 => k_is)
    (case c19 => k_is)
    (case i19 => k_is)
    (case a20 => k_is)
    (case l20 => k_is)
    (case c20 => k_is)
    (case i20 => k_is)
    (case a21 => k_is)
    (case l21 => k_is)
    (case c21 => k_is)
    (case i21 => k_is)
    (case a22 => k_is)
    (case l22 => k_is)
    (case c22 => k_is)
    (case i22 => k_is)
    (case a23 => k_is)
    (case l23 => k_is)
    (case c23 => k_is)
    (case i23 => k_is)
    (case a24 => k_is)
    (case l24 => k_is)
    (case c24 => k_is)
    (case i24 => k_is)
    (case a25 => k_is)
    (case l25 => k_is)
    (case c25 => k_is)
    (case i25 => k_is)
    (case z_len => k_is)
    (case z_range => k_is)
    (case z_tuple => k_is)
    (case z_list => k_is)
    (case z_int => k_is)
    (case z_abs => k_is)
    (case z_sum => k_is)
    (case z_max => k_is)
    (case z_min => k_is)
    (case z_all => k_is)
    (case z_enumerate => k_is)
    (case z_zip => k_is)
    (case z_isinstance => k_is)
    (case z_repr => k_is)
    (case z_bool => k_is)
    (case z_str => k_is)
    (case z_set => k_is)
    (case q_most_spots => k_is)
    (case q_most_mark => k_is)
    (case q_position => k_is)
    (case q_least => k_is)
